import PyProof.Rows.All
import HandS.ForMost
import HandS.Exc
import HandS.IsInst
import HandS.TupAny
import HandS.Deep
import PyProof.ReprRoads
import HandS.Text
import HandS.Style
import PyProof.RulesMatch
import HandS.Iter
import HandS.Comp
import PyProof.StrBlock2
import HandS.Conv
import HandS.RaiseMore
import PyProof.TwoTypesSub
import PyProof.Rows.RuleB_bool
import PyProof.CallStr
import HandS.SortRule
import KE.KSortTupAny
import HandS.EndBits
import PyProof.StrLawsRepr
import PyProof.FitsInt
import PyProof.Rows.ReprOcc
import PyProof.ReprText
import PyProof.StrLawsIn
import PySem.Challenge.RW_lotback_k01_kinds_told
set_option Elab.async false
set_option linter.all false
set_option maxRecDepth 100000
section
/-! DL1: data values D over the hand layer: tuples and lists that stand still are written out, what changes has a number in a store. -/
namespace DL
open PySem L2

/-- a value, with what stands still written out; obj n: the n-th object of the store -/
inductive D where
  | non | bl (b : Bool) | int (i : Int) | str (x : Str) | ty (n : String) | adr (a : Addr)
  | tup (xs : List D) | lst (xs : List D) | scr (xs : List D) | obj (n : Nat)
  deriving Inhabited
/-- an object that changes -/
inductive DO where
  | lst (xs : List D)
  | dk (kvs : List (Key × D))
  deriving Inhabited
abbrev Store := List DO
/-- an exception: its class, its fields -/
structure XD where
  cls : Value
  fs : List (Str × D)
inductive Res (α : Type) where
  | ok (a : α) (st : Store)
  | exc (x : XD) (st : Store)
  | stuck
def Res.bind {α β : Type} (r : Res α) (k : α → Store → Res β) : Res β := match r with
  | .ok a st => k a st
  | .exc x st => .exc x st
  | .stuck => .stuck

/-- where things lie: r, the numbered objects; h, lists that are being made -/
structure Pl where
  r : List Addr
  h : List Addr
abbrev Pl.Off (ρ : Pl) (a : Addr) : Prop := a ∉ ρ.r ∧ a ∉ ρ.h
def Pl.add (ρ : Pl) (p : Addr) : Pl := ⟨ρ.r ++ [p], ρ.h⟩
mutual
inductive RelD (K : PySem.W.Frag) (ρ : Pl) (H : Hp) : D → V → Prop
  | non : RelD K ρ H .non .non
  | bl (b : Bool) : RelD K ρ H (.bl b) (.bl b)
  | int (i : Int) : RelD K ρ H (.int i) (.int i)
  | str (x : Str) : RelD K ρ H (.str x) (.str x)
  | ty (n : String) : RelD K ρ H (.ty n) (.ty n)
  | adr (a : Addr) : RelD K ρ H (.adr a) (.ref a)
  | tup {a : Addr} {vs : List V} {xs : List D} : Rd H a (.tup vs) → ρ.Off a → RelDs K ρ H xs vs → RelD K ρ H (.tup xs) (.ref a)
  | tupK {a : Addr} {vs : List V} {xs : List D} : SqT K (fun _ => none) a vs → RelDs K ρ H xs vs → RelD K ρ H (.tup xs) (.ref a)
  | lst {a : Addr} {vs : List V} {xs : List D} : H a = some (.lst vs) → ρ.Off a → RelDs K ρ H xs vs → RelD K ρ H (.lst xs) (.ref a)
  | scr {a : Addr} {vs : List V} {xs : List D} : Rd H a (.lst vs) → ρ.Off a → RelDs K ρ H xs vs → RelD K ρ H (.scr xs) (.ref a)
  | scrK {a : Addr} {vs : List V} {xs : List D} : SqL K (fun _ => none) a vs → RelDs K ρ H xs vs → RelD K ρ H (.scr xs) (.ref a)
  | obj {n : Nat} {a : Addr} : ρ.r[n]? = some a → RelD K ρ H (.obj n) (.ref a)
inductive RelDs (K : PySem.W.Frag) (ρ : Pl) (H : Hp) : List D → List V → Prop
  | nil : RelDs K ρ H [] []
  | cons {d : D} {v : V} {ds : List D} {vs : List V} : RelD K ρ H d v → RelDs K ρ H ds vs → RelDs K ρ H (d :: ds) (v :: vs)
end

/-- what came before stands: the numbered objects keep their places, all else that is tracked stays as it is -/
structure Ext (ρ : Pl) (H : Hp) (ρ' : Pl) (H' : Hp) : Prop where
  pre : ∀ (i : Nat) (a : Addr), ρ.r[i]? = some a → ρ'.r[i]? = some a
  keep : ∀ a o, H a = some o → ρ.Off a → H' a = some o ∧ ρ'.Off a
  hh : ρ'.h = ρ.h
  hid : ∀ a ∈ ρ.h, H' a = H a
theorem Ext.refl {ρ : Pl} {H : Hp} : Ext ρ H ρ H := ⟨fun _ _ h => h, fun _ _ h n => ⟨h, n⟩, rfl, fun _ _ => rfl⟩
theorem Ext.trans {ρ ρ1 ρ2 : Pl} {H H1 H2 : Hp} (a : Ext ρ H ρ1 H1) (b : Ext ρ1 H1 ρ2 H2) : Ext ρ H ρ2 H2 :=
  ⟨fun i x h => b.pre i x (a.pre i x h), fun x o h n => b.keep x o (a.keep x o h n).1 (a.keep x o h n).2, b.hh.trans a.hh, fun x hx => (b.hid x (by rw [a.hh]; exact hx)).trans (a.hid x hx)⟩
/-- the part of it on which values lean -/
structure Stay (ρ : Pl) (H : Hp) (ρ' : Pl) (H' : Hp) : Prop where
  pre : ∀ (i : Nat) (a : Addr), ρ.r[i]? = some a → ρ'.r[i]? = some a
  keep : ∀ a o, H a = some o → ρ.Off a → H' a = some o ∧ ρ'.Off a
theorem Ext.stay {ρ : Pl} {H : Hp} {ρ' : Pl} {H' : Hp} (e : Ext ρ H ρ' H') : Stay ρ H ρ' H' := ⟨e.pre, e.keep⟩
theorem Stay.trans {ρ ρ1 ρ2 : Pl} {H H1 H2 : Hp} (a : Stay ρ H ρ1 H1) (b : Stay ρ1 H1 ρ2 H2) : Stay ρ H ρ2 H2 :=
  ⟨fun i x h => b.pre i x (a.pre i x h), fun x o h n => b.keep x o (a.keep x o h n).1 (a.keep x o h n).2⟩
theorem Rd.stay {ρ ρ' : Pl} {H H' : Hp} {a : Addr} {u : HO} (e : Stay ρ H ρ' H') (r : Rd H a u) (n : ρ.Off a) : Rd H' a u ∧ ρ'.Off a := by
  rcases r with r | ⟨o, r⟩
  · exact ⟨.inl (e.keep a _ r n).1, (e.keep a _ r n).2⟩
  · exact ⟨.inr ⟨o, (e.keep a _ r n).1⟩, (e.keep a _ r n).2⟩
section
variable {K : PySem.W.Frag} {ρ ρ' : Pl} {H H' : Hp}
mutual
theorem RelD.stay (e : Stay ρ H ρ' H') : ∀ {d : D} {v : V}, RelD K ρ H d v → RelD K ρ' H' d v
  | _, _, .non => .non
  | _, _, .bl b => .bl b
  | _, _, .int i => .int i
  | _, _, .str x => .str x
  | _, _, .ty n => .ty n
  | _, _, .adr a => .adr a
  | _, _, .tup r n t => .tup (Rd.stay e r n).1 (Rd.stay e r n).2 (RelDs.stay e t)
  | _, _, .tupK s t => .tupK s (RelDs.stay e t)
  | _, _, .lst r n t => .lst (e.keep _ _ r n).1 (e.keep _ _ r n).2 (RelDs.stay e t)
  | _, _, .scr r n t => .scr (Rd.stay e r n).1 (Rd.stay e r n).2 (RelDs.stay e t)
  | _, _, .scrK s t => .scrK s (RelDs.stay e t)
  | _, _, .obj h => .obj (e.pre _ _ h)
theorem RelDs.stay (e : Stay ρ H ρ' H') : ∀ {ds : List D} {vs : List V}, RelDs K ρ H ds vs → RelDs K ρ' H' ds vs
  | _, _, .nil => .nil
  | _, _, .cons a t => .cons (RelD.stay e a) (RelDs.stay e t)
end
theorem RelD.ext (e : Ext ρ H ρ' H') {d : D} {v : V} (r : RelD K ρ H d v) : RelD K ρ' H' d v := r.stay e.stay
theorem RelDs.ext (e : Ext ρ H ρ' H') {ds : List D} {vs : List V} (r : RelDs K ρ H ds vs) : RelDs K ρ' H' ds vs := r.stay e.stay
theorem RelDs.length : ∀ {ds : List D} {vs : List V}, RelDs K ρ H ds vs → ds.length = vs.length
  | _, _, .nil => rfl
  | _, _, .cons _ t => by simp [RelDs.length t]
theorem RelDs.append : ∀ {ds es : List D} {vs us : List V}, RelDs K ρ H ds vs → RelDs K ρ H es us → RelDs K ρ H (ds ++ es) (vs ++ us)
  | _, _, _, _, .nil, h => h
  | _, _, _, _, .cons a t, h => .cons a (RelDs.append t h)
theorem RelDs.get : ∀ {ds : List D} {vs : List V} {i : Nat} {d : D}, RelDs K ρ H ds vs → ds[i]? = some d → ∃ v, vs[i]? = some v ∧ RelD K ρ H d v
  | _, _, _, _, .nil, e => by simp at e
  | _, _, 0, _, .cons a _, e => by simp at e; subst e; exact ⟨_, rfl, a⟩
  | _, _, i + 1, d, .cons _ t, e => by
    obtain ⟨v, h1, h2⟩ := RelDs.get (i := i) (d := d) t (by simpa using e)
    exact ⟨v, by simpa using h1, h2⟩
theorem RelDs.take : ∀ {ds : List D} {vs : List V} (n : Nat), RelDs K ρ H ds vs → RelDs K ρ H (ds.take n) (vs.take n)
  | _, _, 0, _ => .nil
  | _, _, _ + 1, .nil => .nil
  | _, _, n + 1, .cons a t => .cons a (RelDs.take n t)
theorem RelDs.drop : ∀ {ds : List D} {vs : List V} (n : Nat), RelDs K ρ H ds vs → RelDs K ρ H (ds.drop n) (vs.drop n)
  | _, _, 0, h => h
  | _, _, _ + 1, .nil => .nil
  | _, _, n + 1, .cons _ t => RelDs.drop n t
theorem RelDs.set {d : D} {v : V} (r : RelD K ρ H d v) : ∀ {ds : List D} {vs : List V} (i : Nat), RelDs K ρ H ds vs → RelDs K ρ H (ds.set i d) (vs.set i v)
  | _, _, _, .nil => .nil
  | _, _, 0, .cons _ t => .cons r t
  | _, _, i + 1, .cons a t => .cons a (RelDs.set r i t)
theorem RelDs.eraseIdx : ∀ {ds : List D} {vs : List V} (i : Nat), RelDs K ρ H ds vs → RelDs K ρ H (ds.eraseIdx i) (vs.eraseIdx i)
  | _, _, _, .nil => .nil
  | _, _, 0, .cons _ t => t
  | _, _, i + 1, .cons a t => .cons a (RelDs.eraseIdx i t)
theorem RelDs.dropLast {ds : List D} {vs : List V} (h : RelDs K ρ H ds vs) : RelDs K ρ H ds.dropLast vs.dropLast := by
  rw [List.dropLast_eq_take, List.dropLast_eq_take, h.length]
  exact h.take _
theorem RelDs.reverse {ds : List D} {vs : List V} (h : RelDs K ρ H ds vs) : RelDs K ρ H ds.reverse vs.reverse := by
  induction h using RelDs.rec (motive_1 := fun _ _ _ => True) with
  | nil => exact .nil
  | cons a t _ ih => simp only [List.reverse_cons]; exact ih.append (.cons a .nil)
  | _ => trivial

/-- an object of the store as it stands at its address -/
def RelO (K : PySem.W.Frag) (ρ : Pl) (H : Hp) (o : DO) (a : Addr) : Prop := match o with
  | .lst xs => ∃ vs, H a = some (.lst vs) ∧ RelDs K ρ H xs vs
  | .dk kvs => ∃ vvs, H a = some (.dK vvs) ∧ vvs.map (·.1) = kvs.map (·.1) ∧ RelDs K ρ H (kvs.map (·.2)) (vvs.map (·.2))
structure RelSt (K : PySem.W.Frag) (ρ : Pl) (H : Hp) (st : Store) : Prop where
  len : ρ.r.length = st.length
  nd : ρ.r.Nodup
  at_ : ∀ (n : Nat) (a : Addr) (o : DO), ρ.r[n]? = some a → st[n]? = some o → RelO K ρ H o a
  dis : ∀ a ∈ ρ.r, a ∉ ρ.h
  hid : ∀ a ∈ ρ.h, ∃ o, H a = some o
theorem RelO.there {o : DO} {a : Addr} (r : RelO K ρ H o a) : ∃ u, H a = some u := by
  cases o with
  | lst xs => obtain ⟨vs, h, _⟩ := r; exact ⟨_, h⟩
  | dk kvs => obtain ⟨vs, h, _⟩ := r; exact ⟨_, h⟩
theorem RelO.stay (e : Stay ρ H ρ' H') {o : DO} {a : Addr} (r : RelO K ρ H o a) (h : H' a = H a) : RelO K ρ' H' o a := by
  cases o with
  | lst xs => obtain ⟨vs, h1, h2⟩ := r; exact ⟨vs, h.trans h1, h2.stay e⟩
  | dk kvs => obtain ⟨vs, h1, h2, h3⟩ := r; exact ⟨vs, h.trans h1, h2, h3.stay e⟩
theorem RelO.ext (e : Ext ρ H ρ' H') {o : DO} {a : Addr} (r : RelO K ρ H o a) (h : H' a = H a) : RelO K ρ' H' o a := r.stay e.stay h
theorem RelSt.mem {st : Store} (r : RelSt K ρ H st) {n : Nat} {a : Addr} (h : ρ.r[n]? = some a) : ∃ o, st[n]? = some o ∧ RelO K ρ H o a := by
  have hl : n < ρ.r.length := (List.getElem?_eq_some_iff.mp h).1
  rw [r.len] at hl
  exact ⟨st[n], List.getElem?_eq_getElem hl, r.at_ n a _ h (List.getElem?_eq_getElem hl)⟩
theorem RelSt.there {st : Store} (r : RelSt K ρ H st) {a : Addr} (h : a ∈ ρ.r) : ∃ u, H a = some u := by
  obtain ⟨n, hn⟩ := List.mem_iff_getElem?.mp h
  obtain ⟨o, _, q⟩ := r.mem hn
  exact q.there
theorem RelSt.notin {st : Store} (r : RelSt K ρ H st) {p : Addr} (h : H p = none) : ρ.Off p := by
  refine ⟨fun m => ?_, fun m => ?_⟩
  · obtain ⟨u, e⟩ := r.there m
    rw [h] at e; cases e
  · obtain ⟨u, e⟩ := r.hid p m
    rw [h] at e; cases e
/-- a new thing that stands still -/
theorem Ext.new {st : Store} (r : RelSt K ρ H st) {p : Addr} {o : HO} (h : H p = none) : Ext ρ H ρ (upd H p o) :=
  ⟨fun _ _ e => e, fun a u e n => ⟨by rw [upd_ne (ne_of_none e h)]; exact e, n⟩, rfl, fun a ha => by
    obtain ⟨u, e⟩ := r.hid a ha
    exact upd_ne (ne_of_none e h)⟩
theorem RelSt.new {st : Store} {p : Addr} {o : HO} (r : RelSt K ρ H st) (h : H p = none) : RelSt K ρ (upd H p o) st := ⟨r.len, r.nd, fun n a u e1 e2 => by
  obtain ⟨w, q⟩ := (r.at_ n a u e1 e2).there
  exact (r.at_ n a u e1 e2).ext (Ext.new r h) (upd_ne (ne_of_none q h)), r.dis, fun a ha => by
  obtain ⟨u, e⟩ := r.hid a ha
  exact ⟨u, by rw [upd_ne (ne_of_none e h)]; exact e⟩⟩
/-- a new object of the store -/
theorem Ext.newO {st : Store} (r : RelSt K ρ H st) {p : Addr} {o : HO} (h : H p = none) : Ext ρ H (ρ.add p) (upd H p o) :=
  ⟨fun i a e => by unfold Pl.add; rw [List.getElem?_append_left (List.getElem?_eq_some_iff.mp e).1]; exact e, fun a u e n => ⟨by rw [upd_ne (ne_of_none e h)]; exact e, by
    intro m
    rcases List.mem_append.mp m with m | m
    · exact n.1 m
    · exact ne_of_none e h (by simpa using m), n.2⟩, rfl, fun a ha => by
    obtain ⟨u, e⟩ := r.hid a ha
    exact upd_ne (ne_of_none e h)⟩
theorem RelSt.newO {st : Store} {p : Addr} {o : HO} {d : DO} (r : RelSt K ρ H st) (h : H p = none) (q : RelO K (ρ.add p) (upd H p o) d p) : RelSt K (ρ.add p) (upd H p o) (st ++ [d]) := by
  refine ⟨by simp [Pl.add, r.len], ?_, fun n a u e1 e2 => ?_, fun a ha => ?_, fun a ha => ?_⟩
  · show (ρ.r ++ [p]).Nodup
    rw [List.nodup_append]
    refine ⟨r.nd, by simp, fun a ha b hb e => ?_⟩
    have : b = p := by simpa using hb
    subst this; subst e
    exact (r.notin h).1 ha
  · have e1 : (ρ.r ++ [p])[n]? = some a := e1
    by_cases hn : n < ρ.r.length
    · rw [List.getElem?_append_left hn] at e1
      rw [List.getElem?_append_left (by rw [← r.len]; exact hn)] at e2
      obtain ⟨w, z⟩ := (r.at_ n a u e1 e2).there
      exact (r.at_ n a u e1 e2).ext (Ext.newO r h) (upd_ne (ne_of_none z h))
    · have hl : n < (ρ.r ++ [p]).length := (List.getElem?_eq_some_iff.mp e1).1
      have hn' : n = ρ.r.length := by simp at hl; omega
      subst hn'
      have e1' : a = p := by simpa using e1.symm
      have e2' : u = d := by rw [r.len] at e2; simpa using e2.symm
      subst e1'; subst e2'
      exact q
  · rcases List.mem_append.mp ha with m | m
    · exact r.dis a m
    · have : a = p := by simpa using m
      subst this
      exact (r.notin h).2
  · obtain ⟨u, e⟩ := r.hid a ha
    exact ⟨u, by rw [upd_ne (ne_of_none e h)]; exact e⟩
theorem RelSt.last {st : Store} (r : RelSt K ρ H st) (p : Addr) : (ρ.add p).r[st.length]? = some p := by rw [← r.len]; simp [Pl.add]
/-- an object of the store changes -/
theorem Ext.mut {st : Store} (r : RelSt K ρ H st) {n : Nat} {a : Addr} {o : HO} (h : ρ.r[n]? = some a) : Ext ρ H ρ (upd H a o) := ⟨fun _ _ e => e, fun b u e m => ⟨by
  rw [upd_ne (fun z => m.1 (by rw [z]; exact List.mem_of_getElem? h))]; exact e, m⟩, rfl, fun b hb => upd_ne (a := a) (b := b) fun z => r.dis a (List.mem_of_getElem? h) (by rw [← z]; exact hb)⟩
theorem RelSt.set {st : Store} {n : Nat} {a : Addr} {o : HO} {d : DO} (r : RelSt K ρ H st) (h : ρ.r[n]? = some a) (q : RelO K ρ (upd H a o) d a) : RelSt K ρ (upd H a o) (st.set n d) := by
  refine ⟨by simp [r.len], r.nd, fun m b u e1 e2 => ?_, r.dis, fun b hb => ?_⟩
  · by_cases hm : m = n
    · subst hm
      rw [h] at e1; cases e1
      have hl : m < st.length := by rw [← r.len]; exact (List.getElem?_eq_some_iff.mp h).1
      rw [List.getElem?_set_self hl] at e2
      cases e2
      exact q
    · rw [List.getElem?_set_ne (Ne.symm hm)] at e2
      have hb : b ≠ a := fun z => by
        subst z
        obtain ⟨h1, e1'⟩ := List.getElem?_eq_some_iff.mp e1
        obtain ⟨h2, e2'⟩ := List.getElem?_eq_some_iff.mp h
        exact hm ((List.getElem_inj r.nd).mp (e1'.trans e2'.symm))
      exact (r.at_ m b u e1 e2).ext (Ext.mut r h) (upd_ne hb)
  · obtain ⟨u, e⟩ := r.hid b hb
    exact ⟨u, (upd_ne (a := a) (b := b) fun z => r.dis a (List.mem_of_getElem? h) (by rw [← z]; exact hb)).trans e⟩

/-- the frame's names -/
abbrev Env' := List (Option D)
structure RelEnv (K : PySem.W.Frag) (ρ : Pl) (H : Hp) (env : Env') (σ : St) : Prop where
  len : env.length = σ.length
  at_ : ∀ (i : Nat) (d : D), env[i]? = some (some d) → ∃ v, σ[i]? = some (some v) ∧ RelD K ρ H d v
theorem RelEnv.stay (e : Stay ρ H ρ' H') {env : Env'} {σ : St} (r : RelEnv K ρ H env σ) : RelEnv K ρ' H' env σ :=
  ⟨r.len, fun i d h => let ⟨v, h1, h2⟩ := r.at_ i d h; ⟨v, h1, h2.stay e⟩⟩
theorem RelEnv.ext (e : Ext ρ H ρ' H') {env : Env'} {σ : St} (r : RelEnv K ρ H env σ) : RelEnv K ρ' H' env σ := r.stay e.stay
theorem RelEnv.set {env : Env'} {σ : St} {d : D} {v : V} (r : RelEnv K ρ H env σ) (i : Nat) (q : RelD K ρ H d v) : RelEnv K ρ H (env.set i (some d)) (σ.set i (some v)) :=
  ⟨by simp [r.len], fun j x h => by
    by_cases hj : j = i
    · subst hj
      have hl : j < env.length := by
        have := (List.getElem?_eq_some_iff.mp h).1
        simpa using this
      rw [List.getElem?_set_self hl] at h
      cases h
      exact ⟨v, by rw [List.getElem?_set_self (by rw [← r.len]; exact hl)], q⟩
    · rw [List.getElem?_set_ne (Ne.symm hj)] at h
      obtain ⟨u, h1, h2⟩ := r.at_ j x h
      exact ⟨u, by rw [List.getElem?_set_ne (Ne.symm hj)]; exact h1, h2⟩⟩
structure Good (K : PySem.W.Frag) (ρ : Pl) (H : Hp) (env : Env') (σ : St) (st : Store) : Prop where
  env : RelEnv K ρ H env σ
  st : RelSt K ρ H st
/-- an exception as it stands -/
def RelX (K : PySem.W.Frag) (ρ : Pl) (H : Hp) (x : XD) (cls : Value) (dx : Option Addr) : Prop :=
  cls = x.cls ∧ ((x.fs = [] ∧ dx = none) ∨ ∃ d fs, dx = some d ∧ ρ.Off d ∧ H d = some (.xd fs) ∧ fs.map (·.1) = x.fs.map (·.1) ∧ RelDs K ρ H (x.fs.map (·.2)) (fs.map (·.2)))

/-- what an expression's outcome must bring about -/
def Out (K : PySem.W.Frag) (W : WX) (ρ : Pl) (H : Hp) (σ : St) (r : Res D) (Q : VK) : Prop := match r with
  | .ok d st' => ∀ ρ' H' v, Ext ρ H ρ' H' → RelSt K ρ' H' st' → RelD K ρ' H' d v → Q v H'
  | .exc x st' => ∀ ρ' H' cls dx, Ext ρ H ρ' H' → RelSt K ρ' H' st' → RelX K ρ' H' x cls dx → W cls dx σ H'
  | .stuck => False
abbrev F := Env' → Store → Res D
def liftE (K : PySem.W.Frag) (W : WX) (f : F) : TE := fun σ H Q => ∃ ρ env st, Good K ρ H env σ st ∧ Out K W ρ H σ (f env st) Q
end
end DL
end
section
/-! DL2: expressions over data values: outcomes one after the other; names, constants, operators, comparisons. -/
namespace DL
open PySem L2
section
variable {K : PySem.W.Frag} {W : WX} {ρ ρ' ρ1 : Pl} {H H' H1 : Hp} {σ : St}
/-- an outcome, whatever is given -/
def OutR {α β : Type} (R : Pl → Hp → α → β → Prop) (K : PySem.W.Frag) (W : WX) (ρ : Pl) (H : Hp) (σ : St) (r : Res α) (Q : β → Hp → Prop) : Prop := match r with
  | .ok d st' => ∀ ρ' H' v, Ext ρ H ρ' H' → RelSt K ρ' H' st' → R ρ' H' d v → Q v H'
  | .exc x st' => ∀ ρ' H' cls dx, Ext ρ H ρ' H' → RelSt K ρ' H' st' → RelX K ρ' H' x cls dx → W cls dx σ H'
  | .stuck => False
abbrev OutE (K : PySem.W.Frag) := OutR (RelD K) K
abbrev OutA (K : PySem.W.Frag) := OutR (RelDs K) K
abbrev RB : Pl → Hp → Bool → Bool → Prop := fun _ _ a b => b = a
abbrev OutT (K : PySem.W.Frag) := OutR RB K
variable {α β γ δ : Type} {R : Pl → Hp → α → β → Prop} {R2 : Pl → Hp → γ → δ → Prop}
theorem OutR.from_ {r : Res α} {Q : β → Hp → Prop} (e : Ext ρ H ρ1 H1) (h : OutR R K W ρ H σ r Q) : OutR R K W ρ1 H1 σ r Q := by
  cases r with
  | ok d st => exact fun ρ' H' v e' => h ρ' H' v (e.trans e')
  | exc x st => exact fun ρ' H' c d e' => h ρ' H' c d (e.trans e')
  | stuck => exact h
theorem OutR.bind {r : Res α} {k : α → Store → Res γ} {Q : δ → Hp → Prop} (h : OutR R2 K W ρ H σ (r.bind k) Q) :
    OutR R K W ρ H σ r (fun v H1 => ∃ ρ1 d st1, r = .ok d st1 ∧ Ext ρ H ρ1 H1 ∧ RelSt K ρ1 H1 st1 ∧ R ρ1 H1 d v ∧ OutR R2 K W ρ1 H1 σ (k d st1) Q) := by
  cases r with
  | ok d st => exact fun ρ' H' v e s q => ⟨ρ', d, st, rfl, e, s, q, OutR.from_ e h⟩
  | exc x st => exact h
  | stuck => exact h
theorem OutR.now {d : α} {st : Store} {Q : β → Hp → Prop} {v : β} (h : OutR R K W ρ H σ (.ok d st) Q) (s : RelSt K ρ H st) (r : R ρ H d v) : Q v H := h ρ H v Ext.refl s r
theorem OutR.mono {r : Res α} {Q Q' : β → Hp → Prop} (h : OutR R K W ρ H σ r Q) (i : ∀ v H, Q v H → Q' v H) : OutR R K W ρ H σ r Q' := by
  cases r with
  | ok d st => exact fun ρ' H' v e s q => i _ _ (h ρ' H' v e s q)
  | exc x st => exact h
  | stuck => exact h
abbrev FF (α : Type) := Env' → Store → Res α
def lE (K : PySem.W.Frag) (W : WX) (f : FF D) : TE := fun σ H Q => ∃ ρ env st, Good K ρ H env σ st ∧ OutE K W ρ H σ (f env st) Q
def lA (K : PySem.W.Frag) (W : WX) (f : FF (List D)) : TA := fun σ H Q => ∃ ρ env st, Good K ρ H env σ st ∧ OutA K W ρ H σ (f env st) Q
def lT (K : PySem.W.Frag) (W : WX) (f : FF Bool) : TT := fun σ H Q => ∃ ρ env st, Good K ρ H env σ st ∧ OutT K W ρ H σ (f env st) Q
theorem Good.ext {env : Env'} {st st1 : Store} (g : Good K ρ H env σ st) (e : Ext ρ H ρ1 H1) (s : RelSt K ρ1 H1 st1) : Good K ρ1 H1 env σ st1 := ⟨g.env.ext e, s⟩
def rbind {α β : Type} (f : FF α) (k : α → FF β) : FF β := fun env st => (f env st).bind fun a st1 => k a env st1
end

section
variable {X : Cx} {W : WX} {a b c : Expr} {fa fb fc : FF D} {pos : Pos}
theorem PE.imp {e : Expr} {t t' : TE} (h : PE X e t) (i : ∀ σ H Q, t' σ H Q → t σ H Q) : PE X e t' := ⟨fun pins s σ H Q I q => h.run pins s σ H Q I (i _ _ _ q)⟩
theorem PT.imp {e : Expr} {t t' : TT} (h : PT X e t) (i : ∀ σ H Q, t' σ H Q → t σ H Q) : PT X e t' := ⟨fun pins s σ H Q I q => h.run pins s σ H Q I (i _ _ _ q)⟩
theorem PA.imp {e : List Expr} {t t' : TA} (h : PA X e t) (i : ∀ σ H Q, t' σ H Q → t σ H Q) : PA X e t' := ⟨fun pos pins s σ H Q I q => h.run pos pins s σ H Q I (i _ _ _ q)⟩
/-- an expression, a test, arguments, as functions of data -/
abbrev DE (X : Cx) (W : WX) (e : Expr) (f : FF D) : Prop := PE X e (lE X.K W f)
abbrev DT (X : Cx) (W : WX) (e : Expr) (f : FF Bool) : Prop := PT X e (lT X.K W f)
abbrev DA (X : Cx) (W : WX) (es : List Expr) (f : FF (List D)) : Prop := PA X es (lA X.K W f)

/-! names and constants -/
def fvar (i : Nat) : FF D := fun env st => match env[i]? with
  | some (some d) => .ok d st
  | _ => .stuck
theorem de_var {i : Nat} {x : Str} (hN : X.N[i]? = some x) (hv : Vis X.env.scope x) (hd : (x == ("__debug__" : Str)) = false) (hcd : (x == ("__classdict__" : Str)) = false) : DE X W (.Name x pos) (fvar i) := by
  refine PE.imp (pe_var hN hv hd hcd) fun σ H Q h => ?_
  obtain ⟨ρ, env, st, g, o⟩ := h
  unfold fvar at o
  split at o
  · rename_i d e
    obtain ⟨v, h1, h2⟩ := g.env.at_ i d e
    exact ⟨v, h1, o.now g.st h2⟩
  · exact o.elim
def fcon (d : D) : FF D := fun _ st => .ok d st
theorem de_con {e : Expr} {v : V} {d : D} (h : PE X e (tC v)) (r : ∀ ρ H, RelD X.K ρ H d v) : DE X W e (fcon d) := by
  refine PE.imp h fun σ H Q h => ?_
  obtain ⟨ρ, env, st, g, o⟩ := h
  exact o.now g.st (r ρ H)
theorem de_int {i j} : DE X W (.Constant (.int i) j pos) (fcon (.int i)) := de_con pe_int fun _ _ => .int i
theorem de_bl {b j} : DE X W (.Constant (.bool b) j pos) (fcon (.bl b)) := de_con pe_bl fun _ _ => .bl b
theorem de_non {j} : DE X W (.Constant .none j pos) (fcon .non) := de_con pe_non fun _ _ => .non
theorem de_str {x j} : DE X W (.Constant (.str x) j pos) (fcon (.str x)) := de_con pe_str fun _ _ => .str x

/-! arguments -/
def fnil : FF (List D) := fun _ st => .ok [] st
def fcons (f : FF D) (g : FF (List D)) : FF (List D) := fun env st => (f env st).bind fun d st1 => (g env st1).bind fun ds st2 => .ok (d :: ds) st2
theorem star_plain {e : Expr} {es : List Expr} {env : PySem.Env} (h : PySem.W.isStarred e = false) : starEach (e :: es) env = (false, eval e env) :: starEach es env := by
  cases e <;> first | rfl | (cases h)
theorem da_nil : DA X W [] fnil := by
  refine PA.imp pa_nil fun σ H Q h => ?_
  obtain ⟨ρ, env, st, g, o⟩ := h
  exact o.now g.st .nil
theorem da_cons {e : Expr} {es : List Expr} {f : FF D} {g : FF (List D)} (he : DE X W e f) (hes : DA X W es g) (hs : PySem.W.isStarred e = false) : DA X W (e :: es) (fcons f g) := by
  refine PA.imp (pa_cons he hes (star_plain hs)) fun σ H Q h => ?_
  obtain ⟨ρ, env, st, gd, o⟩ := h
  refine ⟨ρ, env, st, gd, (OutR.bind (R := RelD X.K) o).mono ?_⟩
  rintro v H1 ⟨ρ1, d, st1, -, e1, s1, r1, o1⟩
  refine ⟨ρ1, env, st1, gd.ext e1 s1, (OutR.bind (R := RelDs X.K) o1).mono ?_⟩
  rintro vs H2 ⟨ρ2, ds, st2, -, e2, s2, r2, o2⟩
  exact o2.now s2 (.cons (r1.ext e2) r2)

/-! two-place operations by values -/
/-- an operation on data that an operation of the machine keeps to -/
def OpD (X : Cx) (W : WX) (f : Value → Value → Sem Value) (g : D → D → Store → Res D) : Prop :=
  ∀ (pins : List (Addr × Obj)) (s : Shared) (σ : St) (H : Hp) (ρ : Pl) (st : Store) (x y : D) (v u : V) (v' u' : Value) (Q : VK), Inv X pins σ H s → RelSt X.K ρ H st → RelD X.K ρ H x v → RelD X.K ρ H y u → RelV v v' → RelV u u' →
    OutE X.K W ρ H σ (g x y st) Q → wpAny (model X.prog X.w) X.A (f v' u') (EP X pins σ Q) X.xe s
def fbin (g : D → D → Store → Res D) (fa fb : FF D) : FF D := fun env st => (fa env st).bind fun x st1 => (fb env st1).bind fun y st2 => g x y st2
theorem bin_walk {g : D → D → Store → Res D} {f : Value → Value → Sem Value} (ho : OpD X W f g) (ha : DE X W a fa) (hb : DE X W b fb) {pins : List (Addr × Obj)} {s : Shared} {σ : St} {H : Hp} {Q : VK} (I : Inv X pins σ H s)
    (h : lE X.K W (fbin g fa fb) σ H Q) : wpAny (model X.prog X.w) X.A (eval a X.env) (fun v s₁ => wpAny (model X.prog X.w) X.A (eval b X.env) (fun u s₂ => wpAny (model X.prog X.w) X.A (f v u) (EP X pins σ Q) X.xe s₂) X.xe s₁) X.xe s := by
  obtain ⟨ρ, env, st, gd, o⟩ := h
  refine thn (ha.run pins s σ H _ I ⟨ρ, env, st, gd, OutR.bind (R := RelD X.K) o⟩) ?_
  rintro v' s1 ⟨v, H1, I1, rv, ρ1, d, st1, -, e1, rs1, r1, o1⟩
  refine thn (hb.run pins s1 σ H1 _ I1 ⟨ρ1, env, st1, gd.ext e1 rs1, OutR.bind (R := RelD X.K) o1⟩) ?_
  rintro u' s2 ⟨u, H2, I2, ru, ρ2, e, st2, -, e2, rs2, r2, o2⟩
  exact ho pins s2 σ H2 ρ2 st2 d e v u v' u' Q I2 rs2 (r1.ext e2) r2 rv ru o2
theorem de_bin {op : Operator} {g : D → D → Store → Res D} (ho : OpD X W (binaryOp op) g) (ha : DE X W a fa) (hb : DE X W b fb) : DE X W (.BinOp a op b pos) (fbin g fa fb) :=
  ⟨fun pins s σ H Q I h => wpAny_BinOp (bin_walk ho ha hb I h)⟩
theorem de_cmp {op : CmpOp} {g : D → D → Store → Res D} (ho : OpD X W (compareOp op) g) (ha : DE X W a fa) (hb : DE X W b fb) (hm : behindInMarks op b = false) : DE X W (.Compare a [op] [b] pos) (fbin g fa fb) :=
  ⟨fun pins s σ H Q I h => wpAny_Compare1 (bin_walk ho ha hb I h) hm⟩
theorem OpD.by {f : Value → Value → Sem Value} {g : D → D → Store → Res D} {r : R2} (ho : OpR X f r)
    (i : ∀ (ρ : Pl) (H : Hp) (σ : St) (st : Store) (x y : D) (v u : V) (Q : VK), RelSt X.K ρ H st → RelD X.K ρ H x v → RelD X.K ρ H y u → OutE X.K W ρ H σ (g x y st) Q → r v u H Q) : OpD X W f g :=
  fun pins s σ H ρ st x y v u v' u' Q I rs rx ry rv ru o => ho pins s σ H v u v' u' Q I rv ru (i ρ H σ st x y v u Q rs rx ry o)
/-- two operations: the first where it is not stuck -/
theorem OpD.or {f : Value → Value → Sem Value} {g g' k : D → D → Store → Res D} (h : OpD X W f g) (h' : OpD X W f g') (hk : ∀ x y st, k x y st = .stuck ∨ k x y st = g x y st ∨ k x y st = g' x y st) : OpD X W f k := by
  intro pins s σ H ρ st x y v u v' u' Q I rs rx ry rv ru o
  rcases hk x y st with e | e | e
  · rw [e] at o; exact o.elim
  · rw [e] at o; exact h pins s σ H ρ st x y v u v' u' Q I rs rx ry rv ru o
  · rw [e] at o; exact h' pins s σ H ρ st x y v u v' u' Q I rs rx ry rv ru o
/-! ints -/
def opI0D (g : Int → Int → D) : D → D → Store → Res D := fun x y st => match x, y with
  | .int i, .int j => .ok (g i j) st
  | _, _ => .stuck
def opID (C : Int → Int → Bool) (g : Int → Int → D) : D → D → Store → Res D := fun x y st => match x, y with
  | .int i, .int j => if C i j then .ok (g i j) st else .stuck
  | _, _ => .stuck
theorem od_int0 {f : Value → Value → Sem Value} {g : Int → Int → V} {gd : Int → Int → D} (ho : OpR X f (rI0 g)) (hg : ∀ i j ρ H, RelD X.K ρ H (gd i j) (g i j)) : OpD X W f (opI0D gd) :=
  OpD.by ho fun ρ H σ st x y v u Q rs rx ry o => by
    cases x with
    | int i =>
      cases y with
      | int j => cases rx; cases ry; exact ⟨i, j, rfl, rfl, o.now rs (hg i j ρ H)⟩
      | _ => exact o.elim
    | _ => exact o.elim
theorem od_int {f : Value → Value → Sem Value} {C : Int → Int → Prop} {Cb : Int → Int → Bool} {g : Int → Int → V} {gd : Int → Int → D} (ho : OpR X f (rI C g)) (hC : ∀ i j, Cb i j = true → C i j) (hg : ∀ i j ρ H, RelD X.K ρ H (gd i j) (g i j)) : OpD X W f (opID Cb gd) :=
  OpD.by ho fun ρ H σ st x y v u Q rs rx ry o => by
    cases x with
    | int i =>
      cases y with
      | int j =>
        cases rx; cases ry
        change OutE X.K W ρ H σ (if Cb i j = true then _ else _) Q at o
        split at o
        · rename_i c
          exact ⟨i, j, rfl, rfl, hC i j c, o.now rs (hg i j ρ H)⟩
        · exact o.elim
      | _ => exact o.elim
    | _ => exact o.elim
end
end DL
end
section
/-! DL3: lists, tuples, texts, data: what a value shows; operators and comparisons of all kinds of data. -/
namespace DL
open PySem L2
/-- what lies in a list: one that stands still, the script, one of the store -/
def seqL (st : Store) : D → Option (List D)
  | .lst xs => some xs
  | .scr xs => some xs
  | .obj n => match st[n]? with | some (.lst xs) => some xs | _ => none
  | _ => none
/-- .. of a list that is not locked -/
def seqO (st : Store) : D → Option (List D)
  | .lst xs => some xs
  | .obj n => match st[n]? with | some (.lst xs) => some xs | _ => none
  | _ => none
section
variable {K : PySem.W.Frag} {ρ : Pl} {H : Hp} {st : Store}
theorem seqL_ok {d : D} {v : V} {xs : List D} (rs : RelSt K ρ H st) (r : RelD K ρ H d v) (e : seqL st d = some xs) : ∃ a vs, v = .ref a ∧ SqL K H a vs ∧ RelDs K ρ H xs vs := by
  cases r with
  | lst h n t => cases e; exact ⟨_, _, rfl, .inl (.inl h), t⟩
  | scr h n t => cases e; exact ⟨_, _, rfl, .inl h, t⟩
  | scrK h t =>
    cases e
    refine ⟨_, _, rfl, .inr ?_, t⟩
    rcases h with h | h
    · rcases h with h | ⟨o, h⟩ <;> cases h
    · exact h
  | @obj n a h =>
    simp only [seqL] at e
    split at e
    · rename_i ys q
      cases e
      obtain ⟨vs, h1, h2⟩ := rs.at_ n a _ h q
      exact ⟨a, vs, rfl, .inl (.inl h1), h2⟩
    · cases e
  | _ => cases e
theorem seqO_ok {d : D} {v : V} {xs : List D} (rs : RelSt K ρ H st) (r : RelD K ρ H d v) (e : seqO st d = some xs) : ∃ a vs, v = .ref a ∧ H a = some (.lst vs) ∧ RelDs K ρ H xs vs := by
  cases r with
  | lst h n t => cases e; exact ⟨_, _, rfl, h, t⟩
  | @obj n a h =>
    simp only [seqO] at e
    split at e
    · rename_i ys q
      cases e
      obtain ⟨vs, h1, h2⟩ := rs.at_ n a _ h q
      exact ⟨a, vs, rfl, h1, h2⟩
    · cases e
  | _ => cases e
theorem tup_ok {v : V} {xs : List D} (r : RelD K ρ H (.tup xs) v) : ∃ a vs, v = .ref a ∧ SqT K H a vs ∧ RelDs K ρ H xs vs := by
  cases r with
  | tup h n t => exact ⟨_, _, rfl, .inl h, t⟩
  | tupK h t =>
    refine ⟨_, _, rfl, .inr ?_, t⟩
    rcases h with h | h
    · rcases h with h | ⟨o, h⟩ <;> cases h
    · exact h
/-- a new tuple, a new list that stand still -/
theorem new_tup {p : Addr} {xs : List D} {vs : List V} (rs : RelSt K ρ H st) (h : H p = none) (r : RelDs K ρ H xs vs) : RelD K ρ (upd H p (.tup vs)) (.tup xs) (.ref p) :=
  .tup (.inl upd_same) (rs.notin h) (r.ext (Ext.new rs h))
theorem new_lst {p : Addr} {xs : List D} {vs : List V} (rs : RelSt K ρ H st) (h : H p = none) (r : RelDs K ρ H xs vs) : RelD K ρ (upd H p (.lst vs)) (.lst xs) (.ref p) :=
  .lst upd_same (rs.notin h) (r.ext (Ext.new rs h))
section
variable {W : WX} {σ : St} {Q : VK}
theorem out_tup {xs : List D} {vs : List V} (o : OutE K W ρ H σ (.ok (.tup xs) st) Q) (rs : RelSt K ρ H st) (r : RelDs K ρ H xs vs) {p : Addr} (h : H p = none) : Q (.ref p) (upd H p (.tup vs)) :=
  o ρ _ _ (Ext.new rs h) (rs.new h) (new_tup rs h r)
theorem out_lst {xs : List D} {vs : List V} (o : OutE K W ρ H σ (.ok (.lst xs) st) Q) (rs : RelSt K ρ H st) (r : RelDs K ρ H xs vs) {p : Addr} (h : H p = none) : Q (.ref p) (upd H p (.lst vs)) :=
  o ρ _ _ (Ext.new rs h) (rs.new h) (new_lst rs h r)
end
/-! data for the library's own == and repr -/
mutual
def toP : D → Option PyData
  | .non => some .none
  | .bl b => some (.bool b)
  | .int i => some (.int i)
  | .str x => some (.str x)
  | .tup xs => (toPs xs).map .tuple
  | .lst xs => (toPs xs).map .list
  | _ => none
def toPs : List D → Option (List PyData)
  | [] => some []
  | d :: ds => match toP d, toPs ds with
    | some p, some ps => some (p :: ps)
    | _, _ => none
end
mutual
theorem toP_ok : ∀ {d : D} {v : V} {p : PyData}, RelD K ρ H d v → toP d = some p → Dp K H v p
  | .non, _, _, r, e => by cases r; cases e; exact .non
  | .bl b, _, _, r, e => by cases r; cases e; exact .bl b
  | .int i, _, _, r, e => by cases r; cases e; exact .int i
  | .str x, _, _, r, e => by cases r; cases e; exact .str x
  | .tup xs, v, p, r, e => by
    simp only [toP, Option.map_eq_some_iff] at e
    obtain ⟨ps, e1, rfl⟩ := e
    obtain ⟨a, vs, rfl, h, t⟩ := tup_ok r
    exact .tup h (toPs_ok t e1)
  | .lst xs, v, p, r, e => by
    simp only [toP, Option.map_eq_some_iff] at e
    obtain ⟨ps, e1, rfl⟩ := e
    cases r with
    | lst h n t => exact .lst (.inl (.inl h)) (toPs_ok t e1)
  | .ty _, _, _, _, e => by cases e
  | .adr _, _, _, _, e => by cases e
  | .scr _, _, _, _, e => by cases e
  | .obj _, _, _, _, e => by cases e
theorem toPs_ok : ∀ {ds : List D} {vs : List V} {ps : List PyData}, RelDs K ρ H ds vs → toPs ds = some ps → DpAll K H vs ps
  | [], _, _, r, e => by cases r; cases e; exact .nil
  | d :: ds, _, ps, r, e => by
    cases r with
    | cons r1 r2 =>
      simp only [toPs] at e
      split at e
      · rename_i p qs e1 e2
        cases e
        exact .cons (toP_ok r1 e1) (toPs_ok r2 e2)
      · cases e
end
def toPS (st : Store) (d : D) : Option PyData := match seqL st d with
  | some xs => (toPs xs).map .list
  | none => toP d
theorem toPS_ok {d : D} {v : V} {p : PyData} (rs : RelSt K ρ H st) (r : RelD K ρ H d v) (e : toPS st d = some p) : Dp K H v p := by
  unfold toPS at e
  split at e
  · rename_i xs h
    obtain ⟨a, vs, rfl, h1, h2⟩ := seqL_ok rs r h
    simp only [Option.map_eq_some_iff] at e
    obtain ⟨ps, e1, rfl⟩ := e
    exact .lst h1 (toPs_ok h2 e1)
  · exact toP_ok r e
end
/-! the longest -/
theorem line_le {n : Nat} (h : n ≤ 16777216) : n ≤ sizeLine := by rw [sizeLine_eq]; exact h
section
variable {X : Cx} {W : WX}
/-! + -/
def addD (x y : D) (st : Store) : Res D := match x, y with
  | .int i, .int j => .ok (.int (i + j)) st
  | .str a, .str b => if a.length + b.length ≤ 16777216 then .ok (.str (a ++ b)) st else .stuck
  | .tup xs, .tup ys => if xs.length + ys.length ≤ 16777216 then .ok (.tup (xs ++ ys)) st else .stuck
  | x, y => match seqO st x, seqO st y with
    | some xs, some ys => if xs.length + ys.length ≤ 16777216 then .ok (.lst (xs ++ ys)) st else .stuck
    | _, _ => .stuck
theorem od_add : OpD X W (binaryOp .Add) addD := by
  intro pins s σ H ρ st x y v u v' u' Q I rs rx ry rv ru o
  unfold addD at o
  split at o
  · cases rx; cases ry
    exact op_add pins s σ H _ _ v' u' Q I rv ru ⟨_, _, rfl, rfl, o.now rs (.int _)⟩
  · cases rx; cases ry
    split at o
    · rename_i h
      exact op_add_str pins s σ H _ _ v' u' Q I rv ru ⟨_, _, rfl, rfl, line_le h, o.now rs (.str _)⟩
    · exact o.elim
  · rename_i xs ys
    split at o
    · rename_i h
      obtain ⟨a, vs, rfl, h1, h2⟩ := tup_ok rx
      obtain ⟨b, us, rfl, h3, h4⟩ := tup_ok ry
      refine op_catA pins s σ H _ _ v' u' Q I rv ru ⟨a, b, vs, us, rfl, rfl, h1, h3, line_le (by rw [← h2.length, ← h4.length]; exact h), fun e => ?_, fun _ e => ?_, fun _ _ p np => out_tup o rs (h2.append h4) np⟩
      · subst e
        cases h2
        exact o.now rs ry
      · subst e
        cases h4
        rw [List.append_nil] at o
        exact o.now rs rx
    · exact o.elim
  · split at o
    · rename_i xs ys e1 e2
      split at o
      · rename_i h
        obtain ⟨a, vs, rfl, h1, h2⟩ := seqO_ok rs rx e1
        obtain ⟨b, us, rfl, h3, h4⟩ := seqO_ok rs ry e2
        exact op_cat pins s σ H _ _ v' u' Q I rv ru ⟨a, b, vs, us, rfl, rfl, h1, h3, line_le (by rw [← h2.length, ← h4.length]; exact h), fun p np => out_lst o rs (h2.append h4) np⟩
      · exact o.elim
    · exact o.elim
/-! the other operators of whole numbers; a list some times over -/
def subD : D → D → Store → Res D := opI0D fun i j => .int (i - j)
theorem od_sub : OpD X W (binaryOp .Sub) subD := od_int0 op_sub fun i j ρ H => .int _
def okMul (i j : Int) : Bool := (decide (-(2 ^ 64) < i) && decide (i < 2 ^ 64)) || (decide (-(2 ^ 64) < j) && decide (j < 2 ^ 64))
def mulI : D → D → Store → Res D := opID okMul fun i j => .int (i * j)
theorem od_mulI : OpD X W (binaryOp .Mult) mulI := od_int op_mul (fun i j h => by
  simpa [okMul, CMul] using h) fun i j ρ H => .int _
def divD : D → D → Store → Res D := opID (fun i j => decide (0 < j) && decide (j < 1073741824)) fun i j => .int (i / j)
theorem od_div : OpD X W (binaryOp .FloorDiv) divD := od_int op_fdiv (fun i j h => by simpa [CDiv] using h) fun i j ρ H => .int _
def modD : D → D → Store → Res D := opID (fun i j => decide (0 < j)) fun i j => .int (i % j)
theorem od_mod : OpD X W (binaryOp .Mod) modD := od_int op_mod (fun i j h => by simpa using h) fun i j ρ H => .int _
def powD : D → D → Store → Res D := opID (fun i j => decide (0 ≤ j) && decide (j ≤ 1000000) && decide (i.natAbs < 2 ^ 64)) fun i j => .int (i ^ j.toNat)
theorem od_pow : OpD X W (binaryOp .Pow) powD := od_int op_pow (fun i j h => by simpa [CPow, and_assoc] using h) fun i j ρ H => .int _
/-- a list k times -/
def repL (k : Int) (xs : List D) : List D := (List.replicate k.toNat xs).flatten
theorem RelDs.rep {K : PySem.W.Frag} {ρ : Pl} {H : Hp} {xs : List D} {vs : List V} (h : RelDs K ρ H xs vs) : ∀ n : Nat, RelDs K ρ H (List.replicate n xs).flatten (List.replicate n vs).flatten
  | 0 => .nil
  | n + 1 => by simp only [List.replicate_succ, List.flatten_cons]; exact h.append (RelDs.rep h n)
def mulL : D → D → Store → Res D := fun x y st => match seqO st x, y with
  | some xs, .int k => if -(2 ^ 63) ≤ k ∧ k < 2 ^ 63 ∧ xs.length * k.toNat ≤ 16777216 then .ok (.lst (repL k xs)) st else .stuck
  | _, _ => .stuck
theorem od_mulL : OpD X W (binaryOp .Mult) mulL := OpD.by op_rep fun ρ H σ st x y v u Q rs rx ry o => by
  unfold mulL at o
  split at o
  · rename_i xs k e
    split at o
    · rename_i h
      obtain ⟨a, vs, rfl, h1, h2⟩ := seqO_ok rs rx e
      cases ry
      exact ⟨a, k, vs, rfl, rfl, h1, h.1, h.2.1, line_le (by rw [← h2.length]; exact h.2.2), fun p np => out_lst o rs (h2.rep _) np⟩
    · exact o.elim
  · exact o.elim
def mulD (x y : D) (st : Store) : Res D := match x with
  | .int _ => mulI x y st
  | _ => mulL x y st
theorem od_mul : OpD X W (binaryOp .Mult) mulD := od_mulI.or od_mulL fun x y st => by
  cases x <;> first | exact .inr (.inl rfl) | exact .inr (.inr rfl)
/-- the operators -/
def binD (op : Operator) : D → D → Store → Res D := match op with
  | .Add => addD
  | .Sub => subD
  | .Mult => mulD
  | .FloorDiv => divD
  | .Mod => modD
  | .Pow => powD
  | _ => fun _ _ _ => .stuck
theorem od_bin (op : Operator) : OpD X W (binaryOp op) (binD op) := by
  cases op <;> first | exact od_add | exact od_sub | exact od_mul | exact od_div | exact od_mod | exact od_pow | exact fun _ _ _ _ _ _ _ _ _ _ _ _ _ _ _ _ _ _ _ o => o.elim
/-! comparisons -/
def eqD (neg : Bool) (x y : D) (st : Store) : Res D := match toPS st x, toPS st y with
  | some p, some q => if SeqAt.shaped p && SeqAt.shaped q then .ok (.bl (if neg then !PyData.eqv p q else PyData.eqv p q)) st else .stuck
  | _, _ => .stuck
theorem od_eq (hu : X.A.units + 64 < cLine) : OpD X W (compareOp .Eq) (eqD false) := OpD.by (op_eqD hu) fun ρ H σ st x y v u Q rs rx ry o => by
  unfold eqD at o
  split at o
  · rename_i p q e1 e2
    split at o
    · rename_i h
      rw [Bool.and_eq_true] at h
      exact ⟨p, q, toPS_ok rs rx e1, toPS_ok rs ry e2, h.1, h.2, o.now rs (.bl _)⟩
    · exact o.elim
  · exact o.elim
theorem od_ne (hu : X.A.units + 64 < cLine) : OpD X W (compareOp .NotEq) (eqD true) := OpD.by (op_neD hu) fun ρ H σ st x y v u Q rs rx ry o => by
  unfold eqD at o
  split at o
  · rename_i p q e1 e2
    split at o
    · rename_i h
      rw [Bool.and_eq_true] at h
      exact ⟨p, q, toPS_ok rs rx e1, toPS_ok rs ry e2, h.1, h.2, o.now rs (.bl _)⟩
    · exact o.elim
  · exact o.elim
def ltStr : D → D → Store → Res D := fun x y st => match x, y with
  | .str i, .str j => .ok (.bl (decide (i.cps.toList < j.cps.toList))) st
  | _, _ => .stuck
def ltD (x y : D) (st : Store) : Res D := match x with
  | .str _ => ltStr x y st
  | _ => opI0D (fun i j => .bl (decide (i < j))) x y st
theorem od_lt : OpD X W (compareOp .Lt) ltD := by
  refine OpD.or (g := ltStr) (g' := opI0D fun i j => .bl (decide (i < j))) (OpD.by op_lt_str fun ρ H σ st x y v u Q rs rx ry o => ?_) (od_int0 op_lt fun i j ρ H => .bl _) fun x y st => ?_
  · unfold ltStr at o
    split at o
    · cases rx; cases ry; exact ⟨_, _, rfl, rfl, o.now rs (.bl _)⟩
    · exact o.elim
  · cases x <;> first | exact .inr (.inl rfl) | exact .inr (.inr rfl)
/-! is None -/
def isN (neg : Bool) : D → D → Store → Res D := fun x y st => match y with
  | .non => .ok (.bl (match x with | .non => !neg | _ => neg)) st
  | _ => .stuck
theorem non_iff {K : PySem.W.Frag} {ρ : Pl} {H : Hp} {x : D} {v : V} (r : RelD K ρ H x v) : decide (v = .non) = match x with | .non => true | _ => false := by
  cases r <;> simp
theorem od_is : OpD X W (compareOp .Is) (isN false) := OpD.by op_isN fun ρ H σ st x y v u Q rs rx ry o => by
  unfold isN at o
  split at o
  · cases ry
    refine ⟨rfl, ?_⟩
    rw [non_iff rx]
    cases x <;> exact o.now rs (.bl _)
  · exact o.elim
theorem od_isnot : OpD X W (compareOp .IsNot) (isN true) := OpD.by op_notN fun ρ H σ st x y v u Q rs rx ry o => by
  unfold isN at o
  split at o
  · cases ry
    refine ⟨rfl, ?_⟩
    rw [non_iff rx]
    cases x <;> exact o.now rs (.bl _)
  · exact o.elim
end
end DL
end
section
/-! DL4: in; dicts read; displays; tests; subscripts; calls of built-ins by values. -/
namespace DL
open PySem L2
section
variable {X : Cx} {W : WX}
/-! flat values and `in` -/
def flatD : D → Option V
  | .non => some .non
  | .bl b => some (.bl b)
  | .int i => some (.int i)
  | .str x => some (.str x)
  | _ => none
def flatDs : List D → Option (List V)
  | [] => some []
  | d :: ds => match flatD d, flatDs ds with
    | some v, some vs => some (v :: vs)
    | _, _ => none
theorem flatD_ok {K : PySem.W.Frag} {ρ : Pl} {H : Hp} {d : D} {v w : V} (r : RelD K ρ H d v) (e : flatD d = some w) : v = w ∧ flatV v = true := by
  cases r <;> first | (cases e; exact ⟨rfl, rfl⟩) | cases e
theorem flatDs_ok {K : PySem.W.Frag} {ρ : Pl} {H : Hp} : ∀ {ds : List D} {vs ws : List V}, RelDs K ρ H ds vs → flatDs ds = some ws → vs = ws ∧ vs.all flatV = true
  | [], _, _, r, e => by cases r; cases e; exact ⟨rfl, rfl⟩
  | d :: ds, _, ws, r, e => by
    cases r with
    | cons r1 r2 =>
      simp only [flatDs] at e
      split at e
      · rename_i v vs e1 e2
        cases e
        obtain ⟨h1, h2⟩ := flatD_ok r1 e1
        obtain ⟨h3, h4⟩ := flatDs_ok r2 e2
        subst h1; subst h3
        exact ⟨rfl, by simp [h2, h4]⟩
      · cases e
def inStr (neg : Bool) : D → D → Store → Res D := fun x y st => match x, y with
  | .str i, .str j => .ok (.bl (if neg then !(!(Builtin.Str.occurrences j i 0 j.length 1).isEmpty) else !(Builtin.Str.occurrences j i 0 j.length 1).isEmpty)) st
  | _, _ => .stuck
def seqA (st : Store) (d : D) : Option (List D) := match d with
  | .tup xs => some xs
  | d => seqL st d
theorem seqA_ok {K : PySem.W.Frag} {ρ : Pl} {H : Hp} {st : Store} {d : D} {v : V} {xs : List D} (rs : RelSt K ρ H st) (r : RelD K ρ H d v) (e : seqA st d = some xs) : ∃ a vs, v = .ref a ∧ (SqL K H a vs ∨ SqT K H a vs) ∧ RelDs K ρ H xs vs := by
  unfold seqA at e
  split at e
  · cases e
    obtain ⟨a, vs, h1, h2, h3⟩ := tup_ok r
    exact ⟨a, vs, h1, .inr h2, h3⟩
  · obtain ⟨a, vs, h1, h2, h3⟩ := seqL_ok rs r e
    exact ⟨a, vs, h1, .inl h2, h3⟩
def inFlat (neg : Bool) : D → D → Store → Res D := fun x y st => match flatD x, (seqA st y).bind flatDs with
  | some v, some vs => .ok (.bl (if neg then !inV v vs else inV v vs)) st
  | _, _ => .stuck
def inDeep (neg : Bool) : D → D → Store → Res D := fun x y st => match toPS st x, (seqL st y).bind toPs with
  | some d, some ds => if SeqAt.shaped d && SeqAt.shaped (.list ds) then .ok (.bl (if neg then !(ds.any fun z => PyData.eqv z d) else ds.any fun z => PyData.eqv z d)) st else .stuck
  | _, _ => .stuck
def getK (kvs : List (Key × D)) (k : Key) : Option D := (kvs.find? fun kv => decide (kv.1 = k)).map (·.2)
def keyD : D → Option Key
  | .int i => some (.inl i)
  | .str x => some (.inr x)
  | _ => none
theorem keyD_ok {K : PySem.W.Frag} {ρ : Pl} {H : Hp} {d : D} {v : V} {k : Key} (r : RelD K ρ H d v) (e : keyD d = some k) : v = kV k := by
  cases r <;> first | (cases e; rfl) | cases e
def dctO (st : Store) : D → Option (List (Key × D))
  | .obj n => match st[n]? with | some (.dk kvs) => some kvs | _ => none
  | _ => none
theorem dctO_ok {K : PySem.W.Frag} {ρ : Pl} {H : Hp} {st : Store} {d : D} {v : V} {kvs : List (Key × D)} (rs : RelSt K ρ H st) (r : RelD K ρ H d v) (e : dctO st d = some kvs) :
    ∃ a vvs, v = .ref a ∧ H a = some (.dK vvs) ∧ vvs.map (·.1) = kvs.map (·.1) ∧ RelDs K ρ H (kvs.map (·.2)) (vvs.map (·.2)) := by
  cases r with
  | @obj n a h =>
    simp only [dctO] at e
    split at e
    · rename_i ys q
      cases e
      obtain ⟨vs, h1, h2, h3⟩ := rs.at_ n a _ h q
      exact ⟨a, vs, rfl, h1, h2, h3⟩
    · cases e
  | _ => cases e
theorem getK_ok {K : PySem.W.Frag} {ρ : Pl} {H : Hp} (k : Key) : ∀ {kvs : List (Key × D)} {vvs : List (Key × V)}, vvs.map (·.1) = kvs.map (·.1) → RelDs K ρ H (kvs.map (·.2)) (vvs.map (·.2)) →
    (getK kvs k = none ∧ valV vvs k = none) ∨ ∃ d v, getK kvs k = some d ∧ valV vvs k = some v ∧ RelD K ρ H d v
  | [], [], _, _ => .inl ⟨rfl, rfl⟩
  | [], _ :: _, e, _ => by cases e
  | _ :: _, [], e, _ => by cases e
  | (a, d) :: r, (b, v) :: s, e, q => by
    simp only [List.map_cons, List.cons.injEq] at e
    obtain ⟨e1, e2⟩ := e
    simp only [List.map_cons] at q
    cases q with
    | cons q1 q2 =>
      by_cases h : a = k
      · refine .inr ⟨d, v, by simp [getK, h], by rw [valV_pos (by rw [e1]; exact h)], q1⟩
      · have h2 : ¬ (b, v).1 = k := by rw [e1]; exact h
        rw [valV_neg h2]
        have h3 : getK ((a, d) :: r) k = getK r k := by simp [getK, List.find?_cons, h]
        rw [h3]
        exact getK_ok k e2 q2
def inDct (neg : Bool) : D → D → Store → Res D := fun x y st => match keyD x, dctO st y with
  | some k, some kvs => .ok (.bl (if neg then !(getK kvs k).isSome else (getK kvs k).isSome)) st
  | _, _ => .stuck
/-- in, not in -/
def inD (neg : Bool) (x y : D) (st : Store) : Res D := match y with
  | .str _ => inStr neg x y st
  | _ => match dctO st y with
    | some _ => inDct neg x y st
    | none => match flatD x, (seqA st y).bind flatDs with
      | some _, some _ => inFlat neg x y st
      | _, _ => inDeep neg x y st
theorem inD_cases (neg : Bool) (x y : D) (st : Store) : inD neg x y st = inStr neg x y st ∨ inD neg x y st = inDct neg x y st ∨ inD neg x y st = inFlat neg x y st ∨ inD neg x y st = inDeep neg x y st := by
  unfold inD
  split
  · exact .inl rfl
  · split
    · exact .inr (.inl rfl)
    · split
      · exact .inr (.inr (.inl rfl))
      · exact .inr (.inr (.inr rfl))
theorem od_inStr (neg : Bool) : OpD X W (compareOp (if neg then .NotIn else .In)) (inStr neg) := by
  intro pins s σ H ρ st x y v u v' u' Q I rs rx ry rv ru o
  unfold inStr at o
  split at o
  · cases rx; cases ry
    cases neg with
    | false => exact op_in_str pins s σ H _ _ v' u' Q I rv ru ⟨_, _, rfl, rfl, o.now rs (.bl _)⟩
    | true => exact op_notin_str pins s σ H _ _ v' u' Q I rv ru ⟨_, _, rfl, rfl, o.now rs (.bl _)⟩
  · exact o.elim
theorem od_inFlat (neg : Bool) : OpD X W (compareOp (if neg then .NotIn else .In)) (inFlat neg) := by
  intro pins s σ H ρ st x y v u v' u' Q I rs rx ry rv ru o
  unfold inFlat at o
  split at o
  · rename_i w ws e1 e2
    rw [Option.bind_eq_some_iff] at e2
    obtain ⟨ys, e3, e4⟩ := e2
    obtain ⟨a, vs, rfl, h1, h2⟩ := seqA_ok rs ry e3
    obtain ⟨rfl, h4⟩ := flatD_ok rx e1
    obtain ⟨rfl, h6⟩ := flatDs_ok h2 e4
    cases neg with
    | false => exact op_in_seq pins s σ H _ _ v' u' Q I rv ru ⟨a, _, rfl, h1, h4, h6, o.now rs (.bl _)⟩
    | true => exact op_notIn_seq pins s σ H _ _ v' u' Q I rv ru ⟨a, _, rfl, h1, h4, h6, o.now rs (.bl _)⟩
  · exact o.elim
theorem od_inDeep (hu : X.A.units + 65 < cLine) (neg : Bool) : OpD X W (compareOp (if neg then .NotIn else .In)) (inDeep neg) := by
  intro pins s σ H ρ st x y v u v' u' Q I rs rx ry rv ru o
  unfold inDeep at o
  split at o
  · rename_i d ds e1 e2
    split at o
    · rename_i h
      rw [Bool.and_eq_true] at h
      rw [Option.bind_eq_some_iff] at e2
      obtain ⟨ys, e3, e4⟩ := e2
      obtain ⟨a, vs, rfl, h1, h2⟩ := seqL_ok rs ry e3
      have hd := toPS_ok rs rx e1
      have hl : Dp X.K H (.ref a) (.list ds) := .lst h1 (toPs_ok h2 e4)
      cases neg with
      | false => exact op_inD hu pins s σ H _ _ v' u' Q I rv ru ⟨d, ds, hd, hl, h.1, h.2, o.now rs (.bl _)⟩
      | true => exact op_notInD hu pins s σ H _ _ v' u' Q I rv ru ⟨d, ds, hd, hl, h.1, h.2, o.now rs (.bl _)⟩
    · exact o.elim
  · exact o.elim
theorem od_inDct (hu : X.A.units + 65 < cLine) (neg : Bool) : OpD X W (compareOp (if neg then .NotIn else .In)) (inDct neg) := by
  intro pins s σ H ρ st x y v u v' u' Q I rs rx ry rv ru o
  unfold inDct at o
  split at o
  · rename_i k kvs e1 e2
    obtain ⟨a, vvs, rfl, h1, h2, h3⟩ := dctO_ok rs ry e2
    have hk := keyD_ok rx e1
    subst hk
    have hs : (valV vvs k).isSome = (getK kvs k).isSome := by
      rcases getK_ok k h2 h3 with ⟨g1, g2⟩ | ⟨d, w, g1, g2, _⟩ <;> simp [g1, g2]
    cases ru
    cases neg with
    | false => exact d_in (by omega) I (DGet.k h1) rv fun s' I' => ⟨.bl _, H, I', rfl, by rw [hs]; exact o.now rs (.bl _)⟩
    | true => exact d_notIn (by omega) I (DGet.k h1) rv fun s' I' => ⟨.bl _, H, I', rfl, by rw [hs]; exact o.now rs (.bl _)⟩
  · exact o.elim
theorem od_inn (hu : X.A.units + 65 < cLine) (neg : Bool) : OpD X W (compareOp (if neg then .NotIn else .In)) (inD neg) := by
  intro pins s σ H ρ st x y v u v' u' Q I rs rx ry rv ru o
  rcases inD_cases neg x y st with e | e | e | e <;> rw [e] at o
  · exact od_inStr neg pins s σ H ρ st x y v u v' u' Q I rs rx ry rv ru o
  · exact od_inDct hu neg pins s σ H ρ st x y v u v' u' Q I rs rx ry rv ru o
  · exact od_inFlat neg pins s σ H ρ st x y v u v' u' Q I rs rx ry rv ru o
  · exact od_inDeep hu neg pins s σ H ρ st x y v u v' u' Q I rs rx ry rv ru o
/-- the comparisons -/
def cmpD (op : CmpOp) : D → D → Store → Res D := match op with
  | .Eq => eqD false
  | .NotEq => eqD true
  | .Lt => ltD
  | .LtE => opI0D fun i j => .bl (decide (i ≤ j))
  | .Gt => opI0D fun i j => .bl (decide (j < i))
  | .GtE => opI0D fun i j => .bl (decide (j ≤ i))
  | .Is => isN false
  | .IsNot => isN true
  | .In => inD false
  | .NotIn => inD true
theorem od_cmp (hu : X.A.units + 65 < cLine) (op : CmpOp) : OpD X W (compareOp op) (cmpD op) := by
  cases op with
  | Eq => exact od_eq (by omega)
  | NotEq => exact od_ne (by omega)
  | Lt => exact od_lt
  | LtE => exact od_int0 op_le fun i j ρ H => .bl _
  | Gt => exact od_int0 op_gt fun i j ρ H => .bl _
  | GtE => exact od_int0 op_ge fun i j ρ H => .bl _
  | Is => exact od_is
  | IsNot => exact od_isnot
  | In => exact od_inn hu false
  | NotIn => exact od_inn hu true
end
end DL
end
section
/-! DL5: and, or, not, tests, displays, subscripts, slices. -/
namespace DL
open PySem PySem.Spec PyProof.Rows L2
section
variable {X : Cx} {W : WX} {a b c : Expr} {fa fb fc : FF D} {pos : Pos} {rest : List Expr}
/-! and, or, not as values -/
def fandV (fa fb : FF D) : FF D := fun env st => (fa env st).bind fun d st1 => match d with
  | .bl true => fb env st1
  | .bl false => .ok (.bl false) st1
  | _ => .stuck
def forV (fa fb : FF D) : FF D := fun env st => (fa env st).bind fun d st1 => match d with
  | .bl true => .ok (.bl true) st1
  | .bl false => fb env st1
  | _ => .stuck
theorem de_one {op : BoolOp} (h : DE X W a fa) : DE X W (.BoolOp op [a] pos) fa := pe_one h
theorem de_and (ha : DE X W a fa) (hb : DE X W (.BoolOp .And (b :: rest) pos) fb) : DE X W (.BoolOp .And (a :: b :: rest) pos) (fandV fa fb) := by
  refine PE.imp (pe_and ha hb) fun σ H Q h => ?_
  obtain ⟨ρ, env, st, g, o⟩ := h
  refine ⟨ρ, env, st, g, (OutR.bind (R := RelD X.K) o).mono ?_⟩
  rintro v H1 ⟨ρ1, d, st1, -, e1, s1, r1, o1⟩
  split at o1
  · cases r1; exact ⟨true, rfl, ρ1, env, st1, g.ext e1 s1, o1⟩
  · cases r1; exact ⟨false, rfl, o1.now s1 (.bl _)⟩
  · exact o1.elim
theorem de_or (ha : DE X W a fa) (hb : DE X W (.BoolOp .Or (b :: rest) pos) fb) : DE X W (.BoolOp .Or (a :: b :: rest) pos) (forV fa fb) := by
  refine PE.imp (pe_or ha hb) fun σ H Q h => ?_
  obtain ⟨ρ, env, st, g, o⟩ := h
  refine ⟨ρ, env, st, g, (OutR.bind (R := RelD X.K) o).mono ?_⟩
  rintro v H1 ⟨ρ1, d, st1, -, e1, s1, r1, o1⟩
  split at o1
  · cases r1; exact ⟨true, rfl, o1.now s1 (.bl _)⟩
  · cases r1; exact ⟨false, rfl, ρ1, env, st1, g.ext e1 s1, o1⟩
  · exact o1.elim
def fnotV (fa : FF D) : FF D := fun env st => (fa env st).bind fun d st1 => match d with
  | .bl k => .ok (.bl (!k)) st1
  | _ => .stuck
theorem de_not (ha : DE X W a fa) : DE X W (.UnaryOp .Not a pos) (fnotV fa) := by
  refine PE.imp (pe_not ha) fun σ H Q h => ?_
  obtain ⟨ρ, env, st, g, o⟩ := h
  refine ⟨ρ, env, st, g, (OutR.bind (R := RelD X.K) o).mono ?_⟩
  rintro v H1 ⟨ρ1, d, st1, -, e1, s1, r1, o1⟩
  split at o1
  · rename_i k
    cases r1; exact ⟨k, rfl, o1.now s1 (.bl _)⟩
  · exact o1.elim
def fneg (fa : FF D) : FF D := fun env st => (fa env st).bind fun d st1 => match d with
  | .int i => .ok (.int (-i)) st1
  | _ => .stuck
theorem de_neg (ha : DE X W a fa) : DE X W (.UnaryOp .USub a pos) (fneg fa) := by
  refine PE.imp (pe_un un_neg ha) fun σ H Q h => ?_
  obtain ⟨ρ, env, st, g, o⟩ := h
  refine ⟨ρ, env, st, g, (OutR.bind (R := RelD X.K) o).mono ?_⟩
  rintro v H1 ⟨ρ1, d, st1, -, e1, s1, r1, o1⟩
  split at o1
  · rename_i i
    cases r1; exact ⟨i, rfl, o1.now s1 (.int _)⟩
  · exact o1.elim
/-! tests -/
def truD (st : Store) (d : D) : Option Bool := match d with
  | .non => some false
  | .bl b => some b
  | .int i => some (i != 0)
  | .str x => if x.length ≤ 16777216 then some ((x.length : Int) != 0) else none
  | .tup xs => some (!xs.isEmpty)
  | d => match seqL st d with
    | some xs => some (!xs.isEmpty)
    | none => (dctO st d).map fun kvs => !kvs.isEmpty
theorem isEmpty_rel {K : PySem.W.Frag} {ρ : Pl} {H : Hp} {xs : List D} {vs : List V} (r : RelDs K ρ H xs vs) : xs.isEmpty = vs.isEmpty := by cases r <;> rfl
theorem truD_ok {K : PySem.W.Frag} {ρ : Pl} {H : Hp} {st : Store} {d : D} {v : V} {k : Bool} (rs : RelSt K ρ H st) (r : RelD K ρ H d v) (e : truD st d = some k) : TruV K v H k := by
  unfold truD at e
  split at e
  · cases r; cases e; rfl
  · cases r; cases e; rfl
  · cases r; cases e; rfl
  · cases r
    split at e
    · rename_i h
      cases e
      exact ⟨line_le h, rfl⟩
    · cases e
  · cases e
    obtain ⟨a, vs, rfl, h1, h2⟩ := tup_ok r
    exact .inr (.inl ⟨vs, h1, by rw [isEmpty_rel h2]⟩)
  · split at e
    · rename_i xs h
      cases e
      obtain ⟨a, vs, rfl, h1, h2⟩ := seqL_ok rs r h
      exact .inl ⟨vs, h1, by rw [isEmpty_rel h2]⟩
    · rw [Option.map_eq_some_iff] at e
      obtain ⟨kvs, e1, rfl⟩ := e
      obtain ⟨a, vvs, rfl, h1, h2, h3⟩ := dctO_ok rs r e1
      refine .inr (.inr ⟨vvs, h1, ?_⟩)
      have := congrArg List.length h2
      cases kvs <;> cases vvs <;> first | rfl | simp at this
def ftru (f : FF D) : FF Bool := fun env st => (f env st).bind fun d st1 => match truD st1 d with
  | some k => .ok k st1
  | none => .stuck
/-- an expression whose test is its value's truth -/
def plainTest : Expr → Bool
  | .UnaryOp .Not _ _ => false
  | .BoolOp _ _ _ => false
  | .IfExp _ _ _ _ => false
  | .Compare _ _ _ _ => false
  | _ => true
theorem isTrue_plainTest {e : Expr} {env : PySem.Env} (h : plainTest e = true) (whole : Sem Value) : isTrue e env whole = (do let v ← whole; standAt e.pos; holding [v] (truthy v)) := by
  cases e with
  | UnaryOp op x p => cases op <;> first | rfl | cases h
  | BoolOp => cases h
  | IfExp => cases h
  | Compare => cases h
  | _ => rfl
theorem dt_tru (ha : DE X W a fa) (h : plainTest a = true) : DT X W a (ftru fa) := by
  refine PT.imp (pt_truth ha (isTrue_plainTest h)) fun σ H Q h => ?_
  obtain ⟨ρ, env, st, g, o⟩ := h
  refine ⟨ρ, env, st, g, (OutR.bind (R := RelD X.K) o).mono ?_⟩
  rintro v H1 ⟨ρ1, d, st1, -, e1, s1, r1, o1⟩
  split at o1
  · rename_i k e
    exact ⟨k, truD_ok s1 r1 e, o1.now s1 rfl⟩
  · exact o1.elim
def fbool (f : FF D) : FF Bool := fun env st => (f env st).bind fun d st1 => match d with
  | .bl k => .ok k st1
  | _ => .stuck
theorem dt_cmp {op : CmpOp} {g : D → D → Store → Res D} (ho : OpD X W (compareOp op) g) (ha : DE X W a fa) (hb : DE X W b fb) (hm : behindInMarks op b = false) : DT X W (.Compare a [op] [b] pos) (fbool (fbin g fa fb)) := by
  refine ⟨fun pins s σ H Q I h => ?_⟩
  obtain ⟨ρ, env, st, gd, o⟩ := h
  refine wpAny_isTrue_Compare1 (thn (bin_walk ho ha hb I ⟨ρ, env, st, gd, OutR.bind (R := RelD X.K) o⟩) fun v s1 h1 => thn h1 fun u s2 h2 => thn h2 fun w' s3 h3 => ?_) hm
  obtain ⟨v3, H3, I3, r3, ρ1, d, st1, -, e1, s1', r1, o1⟩ := h3
  split at o1
  · rename_i k
    cases r1
    cases r3
    exact wpAny_truthy_bool ⟨H3, I3, o1.now s1' rfl⟩
  · exact o1.elim
def fand (ta tb : FF Bool) : FF Bool := fun env st => (ta env st).bind fun k st1 => if k then tb env st1 else .ok false st1
def for_ (ta tb : FF Bool) : FF Bool := fun env st => (ta env st).bind fun k st1 => if k then .ok true st1 else tb env st1
def fnot (ta : FF Bool) : FF Bool := fun env st => (ta env st).bind fun k st1 => .ok (!k) st1
variable {ta tb : FF Bool}
abbrev DW (X : Cx) (W : WX) (e : Expr) (f : FF Bool) : Prop := PW X e (lT X.K W f)
theorem PW.imp {e : Expr} {t t' : TT} (h : PW X e t) (i : ∀ σ H Q, t' σ H Q → t σ H Q) : PW X e t' := ⟨fun wh pins s σ H Q I q => h.run wh pins s σ H Q I (i _ _ _ q)⟩
theorem dw_one {op : BoolOp} (ha : DT X W a ta) : DW X W (.BoolOp op [a] pos) ta := by
  cases op with
  | And => exact pw_and1 ha
  | Or => exact pw_or1 ha
theorem dw_and (ha : DT X W a ta) (hb : DW X W (.BoolOp .And (b :: rest) pos) tb) : DW X W (.BoolOp .And (a :: b :: rest) pos) (fand ta tb) := by
  refine PW.imp (pw_and ha hb) fun σ H Q h => ?_
  obtain ⟨ρ, env, st, g, o⟩ := h
  refine ⟨ρ, env, st, g, (OutR.bind (R := RB) o).mono ?_⟩
  rintro v H1 ⟨ρ1, d, st1, -, e1, s1, r1, o1⟩
  cases r1
  split at o1
  · rename_i h; subst h; exact ⟨ρ1, env, st1, g.ext e1 s1, o1⟩
  · rename_i h
    rw [if_neg h]
    exact o1.now s1 rfl
theorem dw_or (ha : DT X W a ta) (hb : DW X W (.BoolOp .Or (b :: rest) pos) tb) : DW X W (.BoolOp .Or (a :: b :: rest) pos) (for_ ta tb) := by
  refine PW.imp (pw_or ha hb) fun σ H Q h => ?_
  obtain ⟨ρ, env, st, g, o⟩ := h
  refine ⟨ρ, env, st, g, (OutR.bind (R := RB) o).mono ?_⟩
  rintro v H1 ⟨ρ1, d, st1, -, e1, s1, r1, o1⟩
  cases r1
  split at o1
  · rename_i h
    rw [if_pos h]
    exact o1.now s1 rfl
  · rename_i h
    rw [if_neg h]
    exact ⟨ρ1, env, st1, g.ext e1 s1, o1⟩
theorem dt_not (ha : DT X W a ta) : DT X W (.UnaryOp .Not a pos) (fnot ta) := by
  refine PT.imp (pt_not ha) fun σ H Q h => ?_
  obtain ⟨ρ, env, st, g, o⟩ := h
  refine ⟨ρ, env, st, g, (OutR.bind (R := RB) o).mono ?_⟩
  rintro v H1 ⟨ρ1, d, st1, -, e1, s1, r1, o1⟩
  cases r1
  exact o1.now s1 rfl
def fif {α : Type} (t : FF Bool) (fa fb : FF α) : FF α := fun env st => (t env st).bind fun k st1 => if k then fa env st1 else fb env st1
theorem de_if (hc : DT X W c ta) (ha : DE X W a fa) (hb : DE X W b fb) : DE X W (.IfExp c a b pos) (fif ta fa fb) := by
  refine PE.imp (pe_ifExp hc ha hb) fun σ H Q h => ?_
  obtain ⟨ρ, env, st, g, o⟩ := h
  refine ⟨ρ, env, st, g, (OutR.bind (R := RB) o).mono ?_⟩
  rintro v H1 ⟨ρ1, d, st1, -, e1, s1, r1, o1⟩
  cases r1
  split at o1
  · rename_i h; rw [if_pos h]; exact ⟨ρ1, env, st1, g.ext e1 s1, o1⟩
  · rename_i h; rw [if_neg h]; exact ⟨ρ1, env, st1, g.ext e1 s1, o1⟩
/-- a chain of two comparisons -/
def fchain (g g' : D → D → Store → Res D) (fa fb fc : FF D) : FF D := fun env st => (fa env st).bind fun x st1 => (fb env st1).bind fun y st2 => (g x y st2).bind fun k st3 => match k with
  | .bl true => (fc env st3).bind fun z st4 => g' y z st4
  | .bl false => .ok (.bl false) st3
  | _ => .stuck
theorem chain_walk {op op' : CmpOp} {g g' : D → D → Store → Res D} (ho : OpD X W (compareOp op) g) (ho' : OpD X W (compareOp op') g') (ha : DE X W a fa) (hb : DE X W b fb) (hc : DE X W c fc) {pins : List (Addr × Obj)} {s : Shared} {σ : L2.St} {H : Hp} {Q : VK} (I : Inv X pins σ H s)
    (h : lE X.K W (fchain g g' fa fb fc) σ H Q) : wpAny (model X.prog X.w) X.A (eval a X.env) (fun v s1 => wpAny (model X.prog X.w) X.A (eval b X.env) (fun u s2 => wpAny (model X.prog X.w) X.A (compareOp op v u) (fun d s3 => ∃ k, d = Value.bool k ∧
      if k = true then wpAny (model X.prog X.w) X.A (eval c X.env) (fun z s4 => wpAny (model X.prog X.w) X.A (compareOp op' u z) (EP X pins σ Q) X.xe s4) X.xe s3 else EP X pins σ Q (.bool false) s3) X.xe s2) X.xe s1) X.xe s := by
  obtain ⟨ρ, env, st, gd, o⟩ := h
  refine thn (ha.run pins s σ H _ I ⟨ρ, env, st, gd, OutR.bind (R := RelD X.K) o⟩) ?_
  rintro v' s1 ⟨v, H1, I1, rv, ρ1, d, st1, -, e1, rs1, r1, o1⟩
  refine thn (hb.run pins s1 σ H1 _ I1 ⟨ρ1, env, st1, gd.ext e1 rs1, OutR.bind (R := RelD X.K) o1⟩) ?_
  rintro u' s2 ⟨u, H2, I2, ru, ρ2, e, st2, -, e2, rs2, r2, o2⟩
  refine thn (ho pins s2 σ H2 ρ2 st2 d e v u v' u' _ I2 rs2 (r1.ext e2) r2 rv ru (OutR.bind (R := RelD X.K) o2)) ?_
  rintro w' s3 ⟨w, H3, I3, rw', ρ3, k, st3, -, e3, rs3, r3, o3⟩
  split at o3
  · cases r3; cases rw'
    refine ⟨true, rfl, ?_⟩
    rw [if_pos rfl]
    refine thn (hc.run pins s3 σ H3 _ I3 ⟨ρ3, env, st3, gd.ext (e1.trans (e2.trans e3)) rs3, OutR.bind (R := RelD X.K) o3⟩) ?_
    rintro z' s4 ⟨z, H4, I4, rz, ρ4, f, st4, -, e4, rs4, r4, o4⟩
    exact ho' pins s4 σ H4 ρ4 st4 e f u z u' z' Q I4 rs4 (r2.ext (e3.trans e4)) r4 ru rz o4
  · cases r3; cases rw'
    refine ⟨false, rfl, ?_⟩
    rw [if_neg Bool.false_ne_true]
    exact ⟨.bl false, H3, I3, rfl, o3.now rs3 (.bl _)⟩
  · exact o3.elim
theorem de_chain {op op' : CmpOp} {g g' : D → D → Store → Res D} (ho : OpD X W (compareOp op) g) (ho' : OpD X W (compareOp op') g') (ha : DE X W a fa) (hb : DE X W b fb) (hc : DE X W c fc)
    (hm : lastMarks [op, op'] [b, c] = false) : DE X W (.Compare a [op, op'] [b, c] pos) (fchain g g' fa fb fc) := by
  refine ⟨fun pins s σ H Q I h => ?_⟩
  refine Compare_chain (thn (chain_walk ho ho' ha hb hc I h) fun v s1 h1 => chain_link (thn h1 fun u s2 h2 => thn h2 fun d s3 ⟨k, e, q⟩ => ?_)) hm
  subst e
  refine wpAny_truthy_bool ?_
  cases k with
  | false => rw [if_neg Bool.false_ne_true] at q; exact ite_ff q
  | true => rw [if_pos rfl] at q; exact ite_tt (chain_last q)
theorem dt_chain {op op' : CmpOp} {g g' : D → D → Store → Res D} (ho : OpD X W (compareOp op) g) (ho' : OpD X W (compareOp op') g') (ha : DE X W a fa) (hb : DE X W b fb) (hc : DE X W c fc)
    (hm : lastMarks [op, op'] [b, c] = false) : DT X W (.Compare a [op, op'] [b, c] pos) (fbool (fchain g g' fa fb fc)) := by
  refine ⟨fun pins s σ H Q I h => ?_⟩
  obtain ⟨ρ, env, st, gd, o⟩ := h
  have o' : OutE X.K W ρ H σ (fchain g g' fa fb fc env st) (fun v H' => ∃ k, v = .bl k ∧ Q k H') := by
    refine (OutR.bind (R := RelD X.K) o).mono ?_
    rintro v H1 ⟨ρ1, d, st1, -, e1, s1, r1, o1⟩
    split at o1
    · rename_i k
      cases r1
      exact ⟨k, rfl, o1.now s1 rfl⟩
    · exact o1.elim
  refine isTrue_chain (thn (chain_walk ho ho' ha hb hc I ⟨ρ, env, st, gd, o'⟩) fun v s1 h1 => test_link (thn h1 fun u s2 h2 => thn h2 fun d s3 ⟨k, e, q⟩ => ?_)) hm
  subst e
  refine wpAny_truthy_bool ?_
  cases k with
  | false =>
    rw [if_neg Bool.false_ne_true] at q
    obtain ⟨v, H1, I1, r, k', e', q'⟩ := q
    subst e'
    cases r
    exact ite_ff ⟨H1, I1, q'⟩
  | true =>
    rw [if_pos rfl] at q
    refine ite_tt (test_last (thn q fun z s4 h4 => thn h4 fun y s5 ⟨v, H5, I5, r, k', e', q'⟩ => ?_))
    subst e'
    cases r
    exact wpAny_truthy_bool ⟨H5, I5, q'⟩
end
end DL
end
section
/-! DL6: displays, items. -/
namespace DL
open PySem PySem.Spec PyProof.Rows L2
section
variable {X : Cx} {W : WX} {a b c : Expr} {fa fb fc : FF D} {pos : Pos} {es : List Expr} {fs : FF (List D)}
def ftup (g : FF (List D)) : FF D := fun env st => (g env st).bind fun ds st1 => if ds.length ≤ 16777216 then .ok (.tup ds) st1 else .stuck
theorem de_tup {x1} (h : DA X W es fs) : DE X W (.Tuple es x1 pos) (ftup fs) := by
  refine PE.imp (pe_tup h) fun σ H Q h => ?_
  obtain ⟨ρ, env, st, g, o⟩ := h
  refine ⟨ρ, env, st, g, (OutR.bind (R := RelDs X.K) o).mono ?_⟩
  rintro vs H1 ⟨ρ1, ds, st1, -, e1, s1, r1, o1⟩
  split at o1
  · rename_i hl
    exact ⟨line_le (by rw [← r1.length]; exact hl), fun p np => out_tup o1 s1 r1 np⟩
  · exact o1.elim
/-- m: the list has a number in the store -/
def flst (m : Bool) (g : FF (List D)) : FF D := fun env st => (g env st).bind fun ds st1 => if ds.length ≤ 16777216 then (if m then .ok (.obj st1.length) (st1 ++ [.lst ds]) else .ok (.lst ds) st1) else .stuck
theorem out_newL {K : PySem.W.Frag} {W : WX} {ρ : Pl} {H : Hp} {σ : L2.St} {st : Store} {Q : VK} {ds : List D} {vs : List V} (m : Bool) (rs : RelSt K ρ H st) (r : RelDs K ρ H ds vs)
    (o : OutE K W ρ H σ (if m then .ok (.obj st.length) (st ++ [.lst ds]) else .ok (.lst ds) st) Q) {p : Addr} (np : H p = none) : Q (.ref p) (upd H p (.lst vs)) := by
  cases m with
  | false => rw [if_neg Bool.false_ne_true] at o; exact out_lst o rs r np
  | true =>
    rw [if_pos rfl] at o
    exact o (ρ.add p) _ _ (Ext.newO rs np) (rs.newO np ⟨vs, upd_same, r.ext (Ext.newO rs np)⟩) (.obj (rs.last _))
theorem de_lst (m : Bool) (h : DA X W es fs) : DE X W (.List es pos) (flst m fs) := by
  refine PE.imp (pe_lst h) fun σ H Q h => ?_
  obtain ⟨ρ, env, st, g, o⟩ := h
  refine ⟨ρ, env, st, g, (OutR.bind (R := RelDs X.K) o).mono ?_⟩
  rintro vs H1 ⟨ρ1, ds, st1, -, e1, s1, r1, o1⟩
  split at o1
  · rename_i hl
    exact ⟨line_le (by rw [← r1.length]; exact hl), fun p np => out_newL m s1 r1 o1 np⟩
  · exact o1.elim
/-! dicts -/
def putKD (kvs : List (Key × D)) (k : Key) (d : D) : List (Key × D) :=
  if (kvs.any fun kv => decide (kv.1 = k)) = true then kvs.map (fun kv => if kv.1 = k then (kv.1, d) else kv) else kvs ++ [(k, d)]
def mergeD (kvs more : List (Key × D)) : List (Key × D) := more.foldl (fun acc kv => putKD acc kv.1 kv.2) kvs
/-- pairs of a dict as they stand -/
def RelKV (K : PySem.W.Frag) (ρ : Pl) (H : Hp) (kvs : List (Key × D)) (vvs : List (Key × V)) : Prop := vvs.map (·.1) = kvs.map (·.1) ∧ RelDs K ρ H (kvs.map (·.2)) (vvs.map (·.2))
section
variable {K : PySem.W.Frag} {ρ ρ' : Pl} {H H' : Hp}
theorem RelKV.nil : RelKV K ρ H [] [] := ⟨rfl, .nil⟩
theorem RelKV.ext (e : Ext ρ H ρ' H') {kvs : List (Key × D)} {vvs : List (Key × V)} (r : RelKV K ρ H kvs vvs) : RelKV K ρ' H' kvs vvs := ⟨r.1, r.2.ext e⟩
theorem RelKV.ind {motive : List (Key × D) → List (Key × V) → Prop} (h0 : motive [] []) (h1 : ∀ k d v kvs vvs, RelD K ρ H d v → RelKV K ρ H kvs vvs → motive kvs vvs → motive ((k, d) :: kvs) ((k, v) :: vvs)) :
    ∀ {kvs : List (Key × D)} {vvs : List (Key × V)}, RelKV K ρ H kvs vvs → motive kvs vvs
  | [], [], _ => h0
  | [], _ :: _, e => by cases e.1
  | _ :: _, [], e => by cases e.1
  | (a, d) :: r, (b, v) :: s, e => by
    obtain ⟨e1, e2⟩ := e
    simp only [List.map_cons, List.cons.injEq] at e1
    simp only [List.map_cons] at e2
    obtain ⟨rfl, e3⟩ := e1
    cases e2 with
    | cons q1 q2 => exact h1 b d v r s q1 ⟨e3, q2⟩ (RelKV.ind h0 h1 (⟨e3, q2⟩ : RelKV K ρ H r s))
theorem RelKV.any {kvs : List (Key × D)} {vvs : List (Key × V)} (r : RelKV K ρ H kvs vvs) (k : Key) : (vvs.any fun kv => decide (kv.1 = k)) = kvs.any fun kv => decide (kv.1 = k) := by
  have h1 : ∀ l : List (Key × D), (l.any fun kv => decide (kv.1 = k)) = (l.map (·.1)).any fun x => decide (x = k) := fun l => by rw [List.any_map]; rfl
  have h2 : ∀ l : List (Key × V), (l.any fun kv => decide (kv.1 = k)) = (l.map (·.1)).any fun x => decide (x = k) := fun l => by rw [List.any_map]; rfl
  rw [h1, h2, r.1]
theorem RelKV.cons {k : Key} {d : D} {v : V} {kvs : List (Key × D)} {vvs : List (Key × V)} (q : RelD K ρ H d v) (r : RelKV K ρ H kvs vvs) : RelKV K ρ H ((k, d) :: kvs) ((k, v) :: vvs) :=
  ⟨by simp [r.1], by simp only [List.map_cons]; exact .cons q r.2⟩
theorem RelKV.append {kvs es : List (Key × D)} {vvs us : List (Key × V)} (r : RelKV K ρ H kvs vvs) (s : RelKV K ρ H es us) : RelKV K ρ H (kvs ++ es) (vvs ++ us) :=
  ⟨by simp only [List.map_append]; rw [r.1, s.1], by simp only [List.map_append]; exact r.2.append s.2⟩
theorem RelKV.put {kvs : List (Key × D)} {vvs : List (Key × V)} {d : D} {v : V} (r : RelKV K ρ H kvs vvs) (k : Key) (q : RelD K ρ H d v) : RelKV K ρ H (putKD kvs k d) (putK vvs k v) := by
  unfold putKD putK
  rw [r.any k]
  split
  · refine RelKV.ind (K := K) (ρ := ρ) (H := H) (motive := fun kvs vvs => RelKV K ρ H (kvs.map fun kv => if kv.1 = k then (kv.1, d) else kv) (vvs.map fun kv => if kv.1 = k then (kv.1, v) else kv)) .nil ?_ r
    intro j e u kvs vvs h1 _ ih
    simp only [List.map_cons]
    by_cases hj : j = k
    · rw [if_pos hj, if_pos hj]; exact ih.cons q
    · rw [if_neg hj, if_neg hj]; exact ih.cons h1
  · exact r.append (RelKV.nil.cons q)
theorem RelKV.merge : ∀ {more : List (Key × D)} {us : List (Key × V)} {kvs : List (Key × D)} {vvs : List (Key × V)}, RelKV K ρ H more us → RelKV K ρ H kvs vvs → RelKV K ρ H (mergeD kvs more) (mergeK vvs us) := by
  intro more us kvs vvs m
  refine RelKV.ind (K := K) (ρ := ρ) (H := H) (motive := fun more us => ∀ kvs vvs, RelKV K ρ H kvs vvs → RelKV K ρ H (mergeD kvs more) (mergeK vvs us)) (fun _ _ h => h) ?_ m kvs vvs
  intro k d v kvs' vvs' h1 _ ih kvs vvs h
  exact ih _ _ (h.put k h1)
end
def fpairs : List (FF D × FF D) → FF (List (D × D))
  | [] => fun _ st => .ok [] st
  | (fk, fv) :: r => fun env st => (fk env st).bind fun k st1 => (fv env st1).bind fun v st2 => (fpairs r env st2).bind fun ps st3 => .ok ((k, v) :: ps) st3
def RelPs (K : PySem.W.Frag) (ρ : Pl) (H : Hp) (ps : List (D × D)) (qs : List (V × V)) : Prop := RelDs K ρ H (ps.map (·.1)) (qs.map (·.1)) ∧ RelDs K ρ H (ps.map (·.2)) (qs.map (·.2))
theorem pairs_walk {K : PySem.W.Frag} : ∀ {trs : List (FF D × FF D)} {ρ : Pl} {H : Hp} {env : Env'} {σ : L2.St} {st : Store} {Q : List (V × V) → Hp → Prop}, Good K ρ H env σ st → OutR (RelPs K) K W ρ H σ (fpairs trs env st) Q →
    tPairs (trs.map fun p => (lE K W p.1, lE K W p.2)) σ H Q
  | [], ρ, H, env, σ, st, Q, g, o => o.now g.st ⟨.nil, .nil⟩
  | (fk, fv) :: r, ρ, H, env, σ, st, Q, g, o => by
    refine ⟨ρ, env, st, g, (OutR.bind (R := RelD K) o).mono ?_⟩
    rintro v H1 ⟨ρ1, d, st1, -, e1, s1, r1, o1⟩
    refine ⟨ρ1, env, st1, g.ext e1 s1, (OutR.bind (R := RelD K) o1).mono ?_⟩
    rintro u H2 ⟨ρ2, e, st2, -, e2, s2, r2, o2⟩
    refine pairs_walk (g.ext (e1.trans e2) s2) ((OutR.bind (R := RelPs K) o2).mono ?_)
    rintro qs H3 ⟨ρ3, ps, st3, -, e3, s3, r3, o3⟩
    exact o3.now s3 ⟨.cons (r1.ext (e2.trans e3)) r3.1, .cons (r2.ext e3) r3.2⟩
def keysOf : List (D × D) → Option (List (Key × D))
  | [] => some []
  | (k, d) :: r => match keyD k, keysOf r with
    | some x, some l => some ((x, d) :: l)
    | _, _ => none
theorem keysOf_ok {K : PySem.W.Frag} {ρ : Pl} {H : Hp} : ∀ {ps : List (D × D)} {qs : List (V × V)} {kvs : List (Key × D)}, RelPs K ρ H ps qs → keysOf ps = some kvs → ∃ vvs : List (Key × V), qs = vvs.map (fun kv => (kV kv.1, kv.2)) ∧ RelKV K ρ H kvs vvs ∧ vvs.length = kvs.length
  | [], [], _, _, e => by cases e; exact ⟨[], rfl, .nil, rfl⟩
  | [], _ :: _, _, r, _ => by cases r.1
  | _ :: _, [], _, r, _ => by cases r.1
  | (k, d) :: r, (x, y) :: s, kvs, q, e => by
    obtain ⟨q1, q2⟩ := q
    simp only [List.map_cons] at q1 q2
    cases q1 with
    | cons a1 a2 =>
      cases q2 with
      | cons b1 b2 =>
        simp only [keysOf] at e
        split at e
        · rename_i z l e1 e2
          cases e
          obtain ⟨vvs, h1, h2, h3⟩ := keysOf_ok ⟨a2, b2⟩ e2
          have hk := keyD_ok a1 e1
          subst hk
          exact ⟨(z, y) :: vvs, by simp [h1], h2.cons b1, by simp [h3]⟩
        · cases e
def fdict (trs : List (FF D × FF D)) : FF D := fun env st => (fpairs trs env (st ++ [.dk []])).bind fun ps st1 => match st1[st.length]?, keysOf ps with
  | some (.dk []), some kvs => if kvs.length ≤ 15 then .ok (.obj st.length) (st1.set st.length (.dk (mergeD [] kvs))) else .stuck
  | _, _ => .stuck
theorem de_dict {keys : List (Option Expr)} {values : List Expr} {trs : List (FF D × FF D)} (h : PPs X pos keys values (trs.map fun p => (lE X.K W p.1, lE X.K W p.2))) (hall : keys.all (·.isSome) = true) (hl : keys.length = values.length) (h0 : keys ≠ [])
    (h15 : keys.length ≤ 15) : DE X W (.Dict keys values pos) (fdict trs) := by
  refine PE.imp (pe_disp h hall hl h0 h15) fun σ H Q h => ?_
  obtain ⟨ρ, env, st, g, o⟩ := h
  intro p np
  have e0 : Ext ρ H (ρ.add p) (upd H p (.dK [])) := Ext.newO g.st np
  have s0 : RelSt X.K (ρ.add p) (upd H p (.dK [])) (st ++ [.dk []]) := g.st.newO np ⟨[], upd_same, rfl, .nil⟩
  have hp0 : (ρ.add p).r[st.length]? = some p := g.st.last p
  refine pairs_walk (g.ext e0 s0) ((OutR.bind (R := RelPs X.K) (OutR.from_ e0 o)).mono ?_)
  rintro qs H2 ⟨ρ2, ps, st2, -, e2, s2, r2, o2⟩
  split at o2
  · rename_i kvs q1 q2
    have hp2 : ρ2.r[st.length]? = some p := e2.pre _ _ hp0
    obtain ⟨vs, h1, h2, h3⟩ := s2.at_ _ _ _ hp2 q1
    have hv : vs = [] := by simpa using h2
    subst hv
    obtain ⟨vvs, k1, k2, k3⟩ := keysOf_ok r2 q2
    refine ⟨h1, vvs, k1, ?_, ?_⟩
    · split at o2
      · rename_i hl; rw [k3]; exact hl
      · exact o2.elim
    · split at o2
      · have em : Ext ρ2 H2 ρ2 (upd H2 p (.dK (mergeK [] vvs))) := Ext.mut s2 hp2
        have km : RelKV X.K ρ2 (upd H2 p (.dK (mergeK [] vvs))) (mergeD [] kvs) (mergeK [] vvs) := RelKV.merge (k2.ext em) .nil
        exact o2 ρ2 _ _ em (s2.set hp2 ⟨_, upd_same, km.1, km.2⟩) (.obj hp2)
      · exact o2.elim
  · exact o2.elim
def fdict0 : FF D := fun _ st => .ok (.obj st.length) (st ++ [.dk []])
theorem de_dict0 : DE X W (.Dict [] [] pos) fdict0 := by
  refine PE.imp pe_dnewK fun σ H Q h => ?_
  obtain ⟨ρ, env, st, g, o⟩ := h
  intro p np
  exact o _ _ _ (Ext.newO g.st np) (g.st.newO np ⟨[], upd_same, rfl, .nil⟩) (.obj (g.st.last _))
/-! items -/
def PlainB : Expr → Bool
  | .Slice _ _ _ _ => false
  | _ => true
def IxD (X : Cx) (W : WX) (g : D → D → Store → Res D) : Prop :=
  ∀ (value slice : Expr) (pins : List (Addr × Obj)) (s : Shared) (σ : L2.St) (H : Hp) (ρ : Pl) (st : Store) (x y : D) (v u : V) (v' u' : Value) (Q : VK), L2.Inv X pins σ H s → RelSt X.K ρ H st → RelD X.K ρ H x v → RelD X.K ρ H y u → RelV v v' → RelV u u' →
    OutE X.K W ρ H σ (g x y st) Q → subscripted slice false v' u' = operate [v', u'] (getItem v' u') → wpAny (model X.prog X.w) X.A (subscriptTail value slice v' u') (EP X pins σ Q) X.xe s
theorem IxD.by {g : D → D → Store → Res D} {r : R2} (ho : IxR X r)
    (i : ∀ (ρ : Pl) (H : Hp) (σ : L2.St) (st : Store) (x y : D) (v u : V) (Q : VK), RelSt X.K ρ H st → RelD X.K ρ H x v → RelD X.K ρ H y u → OutE X.K W ρ H σ (g x y st) Q → r v u H Q) : IxD X W g :=
  fun value slice pins s σ H ρ st x y v u v' u' Q I rs rx ry rv ru o hs => ho value slice pins s σ H v u v' u' Q I rv ru (i ρ H σ st x y v u Q rs rx ry o) hs
theorem de_ix {g : D → D → Store → Res D} (hr : IxD X W g) (ha : DE X W a fa) (hb : DE X W b fb) (hs : PlainIx b) : DE X W (.Subscript a b pos) (fbin g fa fb) := by
  refine ⟨fun pins s σ H Q I h => ?_⟩
  refine Subscript_ ?_
  obtain ⟨ρ, env, st, gd, o⟩ := h
  refine thn (ha.run pins s σ H _ I ⟨ρ, env, st, gd, OutR.bind (R := RelD X.K) o⟩) ?_
  rintro v' s1 ⟨v, H1, I1, rv, ρ1, d, st1, -, e1, rs1, r1, o1⟩
  refine thn (hb.run pins s1 σ H1 _ I1 ⟨ρ1, env, st1, gd.ext e1 rs1, OutR.bind (R := RelD X.K) o1⟩) ?_
  rintro u' s2 ⟨u, H2, I2, ru, ρ2, e, st2, -, e2, rs2, r2, o2⟩
  exact hr a b pins s2 σ H2 ρ2 st2 d e v u v' u' Q I2 rs2 (r1.ext e2) r2 rv ru o2 (hs _ _)
theorem plainIx_of {b : Expr} (h : PlainB b = true) : PlainIx b := by
  intro o i
  cases b <;> first | rfl | cases h
theorem atI_rel {K : PySem.W.Frag} {ρ : Pl} {H : Hp} {xs : List D} {vs : List V} {i : Int} {d : D} (r : RelDs K ρ H xs vs) (e : atI xs i = some d) : ∃ v, atI vs i = some v ∧ RelD K ρ H d v := by
  unfold atI at e ⊢
  rw [← r.length]
  cases h : ixN xs.length i with
  | none => rw [h] at e; cases e
  | some j =>
    rw [h] at e
    exact r.get e
def ixSeq : D → D → Store → Res D := fun x y st => match seqL st x, y with
  | some xs, .int i => match atI xs i with | some d => .ok d st | none => .stuck
  | _, _ => .stuck
def ixTup : D → D → Store → Res D := fun x y st => match x, y with
  | .tup xs, .int i => match atI xs i with | some d => .ok d st | none => .stuck
  | _, _ => .stuck
def ixStr : D → D → Store → Res D := fun x y st => match x, y with
  | .str z, .int i => if z.length ≤ 16777216 then (match atI z.cps.toList i with | some c => .ok (.str ⟨#[c]⟩) st | none => .stuck) else .stuck
  | _, _ => .stuck
def ixDct : D → D → Store → Res D := fun x y st => match dctO st x, keyD y with
  | some kvs, some k => match getK kvs k with | some d => .ok d st | none => .stuck
  | _, _ => .stuck
def ixD (x y : D) (st : Store) : Res D := match x with
  | .str _ => ixStr x y st
  | .tup _ => ixTup x y st
  | _ => match dctO st x with
    | some _ => ixDct x y st
    | none => ixSeq x y st
theorem id_seq : IxD X W ixSeq := IxD.by ix_list fun ρ H σ st x y v u Q rs rx ry o => by
  unfold ixSeq at o
  split at o
  · rename_i xs i e
    split at o
    · rename_i d ed
      obtain ⟨a, vs, rfl, h1, h2⟩ := seqL_ok rs rx e
      cases ry
      obtain ⟨w, h3, h4⟩ := atI_rel h2 ed
      exact ⟨a, vs, i, w, rfl, rfl, h1, h3, o.now rs h4⟩
    · exact o.elim
  · exact o.elim
theorem id_tup : IxD X W ixTup := IxD.by ix_tup fun ρ H σ st x y v u Q rs rx ry o => by
  unfold ixTup at o
  split at o
  · rename_i xs i
    split at o
    · rename_i d ed
      obtain ⟨a, vs, rfl, h1, h2⟩ := tup_ok rx
      cases ry
      obtain ⟨w, h3, h4⟩ := atI_rel h2 ed
      exact ⟨a, vs, i, w, rfl, rfl, h1, h3, o.now rs h4⟩
    · exact o.elim
  · exact o.elim
theorem id_str : IxD X W ixStr := IxD.by ix_str fun ρ H σ st x y v u Q rs rx ry o => by
  unfold ixStr at o
  split at o
  · rename_i z i
    split at o
    · rename_i hl
      split at o
      · rename_i ch ed
        cases rx; cases ry
        exact ⟨z, i, ch, rfl, rfl, line_le hl, ed, o.now rs (.str _)⟩
      · exact o.elim
    · exact o.elim
  · exact o.elim
theorem id_dct (hu : X.A.units + 65 < cLine) : IxD X W ixDct := by
  intro value slice pins s σ H ρ st x y v u v' u' Q I rs rx ry rv ru o hs
  unfold ixDct at o
  split at o
  · rename_i kvs k e1 e2
    split at o
    · rename_i d ed
      obtain ⟨a, vvs, rfl, h1, h2, h3⟩ := dctO_ok rs rx e1
      have hk := keyD_ok ry e2
      subst hk
      rcases getK_ok k h2 h3 with ⟨g1, _⟩ | ⟨d', w, g1, g2, g3⟩
      · rw [g1] at ed; cases ed
      · rw [g1] at ed; cases ed
        cases rv
        have dg : DGet H a (kV k) (some w) := g2 ▸ DGet.k h1
        exact tail_any (dict_typeIs I dg) slot_dict_getitem.lookup (d_getItem (by omega) I dg ru fun w' s' I' r' => ⟨w, H, I', r', o.now rs g3⟩) hs
    · exact o.elim
  · exact o.elim
theorem id_all (hu : X.A.units + 65 < cLine) : IxD X W ixD := by
  intro value slice pins s σ H ρ st x y v u v' u' Q I rs rx ry rv ru o hs
  unfold ixD at o
  split at o
  · exact id_str value slice pins s σ H ρ st _ y v u v' u' Q I rs rx ry rv ru o hs
  · exact id_tup value slice pins s σ H ρ st _ y v u v' u' Q I rs rx ry rv ru o hs
  · split at o
    · exact id_dct hu value slice pins s σ H ρ st x y v u v' u' Q I rs rx ry rv ru o hs
    · exact id_seq value slice pins s σ H ρ st x y v u v' u' Q I rs rx ry rv ru o hs
end
end DL
end
section
/-! DL7: slices; calls of built-ins and their methods by values. -/
namespace DL
open PySem PySem.Spec PyProof.Rows L2
section
variable {X : Cx} {W : WX} {a b c : Expr} {fa fb fc : FF D} {pos : Pos} {es : List Expr} {fs : FF (List D)}
/-! slices -/
abbrev RO : Pl → Hp → Option Int → Option Int → Prop := fun _ _ a b => b = a
def lP (K : PySem.W.Frag) (W : WX) (f : FF (Option Int)) : TO := fun σ H Q => ∃ ρ env st, Good K ρ H env σ st ∧ OutR RO K W ρ H σ (f env st) Q
abbrev DP (X : Cx) (W : WX) (e : Option Expr) (f : FF (Option Int)) : Prop := PO X e (lP X.K W f)
theorem PO.imp {e : Option Expr} {t t' : TO} (h : PO X e t) (i : ∀ σ H Q, t' σ H Q → t σ H Q) : PO X e t' := ⟨fun pins s σ H Q I q => h.run pins s σ H Q I (i _ _ _ q)⟩
def fpartN : FF (Option Int) := fun _ st => .ok none st
def fpart (f : FF D) : FF (Option Int) := fun env st => (f env st).bind fun d st1 => match d with | .int i => .ok (some i) st1 | _ => .stuck
theorem dp_none : DP X W none fpartN := PO.imp po_none fun σ H Q ⟨ρ, env, st, g, o⟩ => o.now g.st rfl
theorem dp_some (h : DE X W a fa) : DP X W (some a) (fpart fa) := by
  refine PO.imp (po_some h) fun σ H Q h => ?_
  obtain ⟨ρ, env, st, g, o⟩ := h
  refine ⟨ρ, env, st, g, (OutR.bind (R := RelD X.K) o).mono ?_⟩
  rintro v H1 ⟨ρ1, d, st1, -, e1, s1, r1, o1⟩
  split at o1
  · rename_i i
    cases r1
    exact ⟨i, rfl, o1.now s1 rfl⟩
  · exact o1.elim
def cutD (xs : List D) (lo hi : Option Int) : List D := (xs.drop (HT.sIx xs.length 0 lo)).take (HT.sIx xs.length xs.length hi - HT.sIx xs.length 0 lo)
theorem cut_rel {K : PySem.W.Frag} {ρ : Pl} {H : Hp} {xs : List D} {vs : List V} (r : RelDs K ρ H xs vs) (lo hi : Option Int) : RelDs K ρ H (cutD xs lo hi) (cutV vs lo hi) := by
  unfold cutD cutV
  rw [r.length]
  exact (r.drop _).take _
/-- x[lo:hi]; m: a new list has a number -/
def sliceD (m : Bool) (x : D) (lo hi : Option Int) (st : Store) : Res D := match x with
  | .str z => if z.length ≤ 16777216 then .ok (.str (cutS z lo hi)) st else .stuck
  | .tup xs => .ok (.tup (cutD xs lo hi)) st
  | x => match seqL st x with
    | some xs => if m then .ok (.obj st.length) (st ++ [.lst (cutD xs lo hi)]) else .ok (.lst (cutD xs lo hi)) st
    | none => .stuck
def rSlAll (K : PySem.W.Frag) : V → Option Int → Option Int → Hp → VK → Prop := fun x lo hi H Q => rSlS x lo hi H Q ∨ rSlA K x lo hi H Q ∨ rSlL K x lo hi H Q
theorem sl_all : SlR X (rSlAll X.K) := sl_str.or (sl_tupA.or sl_list)
def fslice (m : Bool) (f : FF D) (lo hi : FF (Option Int)) : FF D := fun env st => (f env st).bind fun x st1 => (lo env st1).bind fun l st2 => (hi env st2).bind fun h st3 => sliceD m x l h st3
theorem de_slice {lo hi : Option Expr} {fl fh : FF (Option Int)} {p2 : Pos} (m : Bool) (he : DE X W a fa) (hl : DP X W lo fl) (hh : DP X W hi fh) : DE X W (.Subscript a (.Slice lo hi none p2) pos) (fslice m fa fl fh) := by
  refine PE.imp (pe_slice sl_all he hl hh) fun σ H Q h => ?_
  obtain ⟨ρ, env, st, g, o⟩ := h
  refine ⟨ρ, env, st, g, (OutR.bind (R := RelD X.K) o).mono ?_⟩
  rintro v H1 ⟨ρ1, d, st1, -, e1, s1, r1, o1⟩
  refine ⟨ρ1, env, st1, g.ext e1 s1, (OutR.bind (R := RO) o1).mono ?_⟩
  rintro l H2 ⟨ρ2, l', st2, -, e2, s2, r2, o2⟩
  cases r2
  refine ⟨ρ2, env, st2, g.ext (e1.trans e2) s2, (OutR.bind (R := RO) o2).mono ?_⟩
  rintro h H3 ⟨ρ3, h', st3, -, e3, s3, r3, o3⟩
  cases r3
  have r := r1.ext (e2.trans e3)
  unfold sliceD at o3
  split at o3
  · rename_i z
    cases r
    split at o3
    · rename_i hz
      exact .inl ⟨z, rfl, line_le hz, o3.now s3 (.str _)⟩
    · exact o3.elim
  · rename_i xs
    obtain ⟨p, vs, rfl, h1, h2⟩ := tup_ok r
    refine .inr (.inl ⟨p, vs, rfl, h1, fun hw => ?_, fun hw q nq => out_tup o3 s3 (cut_rel h2 _ _) nq⟩)
    have hc : cutD xs l h = xs := by
      unfold cutD
      rw [h2.length, hw.1, hw.2]
      simp only [List.drop_zero, Nat.sub_zero]
      rw [← h2.length]
      exact List.take_length
    rw [hc] at o3
    exact o3.now s3 r
  · split at o3
    · rename_i xs ex
      obtain ⟨p, vs, rfl, h1, h2⟩ := seqL_ok s3 r ex
      exact .inr (.inr ⟨p, vs, rfl, h1, fun q nq => out_newL m s3 (cut_rel h2 _ _) o3 nq⟩)
    · exact o3.elim
/-! calls by values -/
/-- what a call that raises nothing brings about -/
def rD (K : PySem.W.Frag) (g : List D → Store → Option (D × Store)) : List V → Hp → VK → Prop := fun vs H Q => ∃ ρ st ds, RelSt K ρ H st ∧ RelDs K ρ H ds vs ∧ match g ds st with
  | some (d, st') => ∀ ρ' H' v, Ext ρ H ρ' H' → RelSt K ρ' H' st' → RelD K ρ' H' d v → Q v H'
  | none => False
def ofO {α : Type} : Option (α × Store) → Res α
  | some (d, st) => .ok d st
  | none => .stuck
abbrev CallD (X : Cx) (f : Value) (g : List D → Store → Option (D × Store)) : Prop := CallR X f (rD X.K g)
theorem CallD.by {f : Value} {g : List D → Store → Option (D × Store)} {r : List V → Hp → VK → Prop} (h : CallR X f r)
    (i : ∀ (ρ : Pl) (H : Hp) (st : Store) (ds : List D) (vs : List V) (Q : VK) (d : D) (st' : Store), RelSt X.K ρ H st → RelDs X.K ρ H ds vs → g ds st = some (d, st') →
      (∀ ρ' H' v, Ext ρ H ρ' H' → RelSt X.K ρ' H' st' → RelD X.K ρ' H' d v → Q v H') → r vs H Q) : CallD X f g := by
  intro pins s σ H xs us Q I rx q
  obtain ⟨ρ, st, ds, rs, rd, o⟩ := q
  cases e : g ds st with
  | none => rw [e] at o; exact o.elim
  | some p =>
    obtain ⟨d, st'⟩ := p
    rw [e] at o
    exact h pins s σ H xs us Q I rx (i ρ H st ds xs Q d st' rs rd e o)
theorem CallD.or {f : Value} {g g' k : List D → Store → Option (D × Store)} (h : CallD X f g) (h' : CallD X f g') (hk : ∀ ds st, k ds st = none ∨ k ds st = g ds st ∨ k ds st = g' ds st) : CallD X f k := by
  intro pins s σ H xs us Q I rx q
  obtain ⟨ρ, st, ds, rs, rd, o⟩ := q
  rcases hk ds st with e | e | e
  · rw [e] at o; exact o.elim
  · rw [e] at o; exact h pins s σ H xs us Q I rx ⟨ρ, st, ds, rs, rd, o⟩
  · rw [e] at o; exact h' pins s σ H xs us Q I rx ⟨ρ, st, ds, rs, rd, o⟩
def fcallO (g : List D → Store → Option (D × Store)) (fs : FF (List D)) : FF D := fun env st => (fs env st).bind fun ds st1 => ofO (g ds st1)
theorem tCB_of {g : List D → Store → Option (D × Store)} {σ : L2.St} {H : Hp} {Q : VK} (h : lE X.K W (fcallO g fs) σ H Q) : tCB (rD X.K g) (lA X.K W fs) σ H Q := by
  obtain ⟨ρ, env, st, gd, o⟩ := h
  refine ⟨ρ, env, st, gd, (OutR.bind (R := RelDs X.K) o).mono ?_⟩
  rintro vs H1 ⟨ρ1, ds, st1, -, e1, s1, r1, o1⟩
  refine ⟨ρ1, st1, ds, s1, r1, ?_⟩
  cases e : g ds st1 with
  | none => rw [e] at o1; exact o1.elim
  | some p => rw [e] at o1; exact o1
theorem plain_star : ∀ {es : List Expr} {env : PySem.Env} {pos : Pos}, es.all (fun e => !PySem.W.isStarred e) = true → (backTo pos (starEach es env)).any (·.1) = false
  | [], _, _, _ => rfl
  | e :: es, env, pos, h => by
    rw [List.all_cons, Bool.and_eq_true, Bool.not_eq_true'] at h
    rw [star_plain h.1]
    show (false || (backTo pos (starEach es env)).any (·.1)) = false
    rw [Bool.false_or]
    exact plain_star h.2
theorem de_callB {id : String} {x : Str} {p : Pos} {g : List D → Store → Option (D × Store)} (hc : CallD X (.builtin id) g) (hg : Gl X x) (hm : X.mg x = none) (hv : bootBuiltins x = some (.builtin id)) (ha : DA X W (a :: es) fs) (hn : x ≠ "__name__") (hdb : (x == ("__debug__" : Str)) = false)
    (hst : (a :: es).all (fun e => !PySem.W.isStarred e) = true) : DE X W (.Call (.Name x p) (a :: es) [] pos) (fcallO g fs) := by
  rw [List.all_cons, Bool.and_eq_true, Bool.not_eq_true'] at hst
  exact PE.imp (pe_callB hc hg hm hv ha hn hdb (star_plain hst.1) (plain_star hst.2)) fun σ H Q h => tCB_of h
theorem de_callTy {T : String} {x : Str} {p : Pos} {g : List D → Store → Option (D × Store)} (hc : CallD X (.type T) g) (hg : Gl X x) (hm : X.mg x = none) (hv : bootBuiltins x = some (.type T)) (ha : DA X W (a :: es) fs) (hn : x ≠ "__name__") (hdb : (x == ("__debug__" : Str)) = false)
    (hst : (a :: es).all (fun e => !PySem.W.isStarred e) = true) : DE X W (.Call (.Name x p) (a :: es) [] pos) (fcallO g fs) := by
  rw [List.all_cons, Bool.and_eq_true, Bool.not_eq_true'] at hst
  exact PE.imp (pe_callTy hc hg hm hv ha hn hdb (star_plain hst.1) (plain_star hst.2)) fun σ H Q h => tCB_of h
/-! methods of built-in types -/
def rM (K : PySem.W.Frag) (g : D → List D → Store → Option (D × Store)) : V → List V → Hp → VK → Prop := fun x vs H Q => ∃ ρ st d ds, RelSt K ρ H st ∧ RelD K ρ H d x ∧ RelDs K ρ H ds vs ∧ match g d ds st with
  | some (d, st') => ∀ ρ' H' v, Ext ρ H ρ' H' → RelSt K ρ' H' st' → RelD K ρ' H' d v → Q v H'
  | none => False
abbrev MtD (X : Cx) (id : String) (g : D → List D → Store → Option (D × Store)) : Prop := MtR X id (rM X.K g)
theorem MtD.by {id : String} {g : D → List D → Store → Option (D × Store)} {r : V → List V → Hp → VK → Prop} (h : MtR X id r)
    (i : ∀ (ρ : Pl) (H : Hp) (st : Store) (d : D) (ds : List D) (v : V) (vs : List V) (Q : VK) (e : D) (st' : Store), RelSt X.K ρ H st → RelD X.K ρ H d v → RelDs X.K ρ H ds vs → g d ds st = some (e, st') →
      (∀ ρ' H' v, Ext ρ H ρ' H' → RelSt X.K ρ' H' st' → RelD X.K ρ' H' e v → Q v H') → r v vs H Q) : MtD X id g := by
  intro pins s σ H x xs v us Q I rx rxs q
  obtain ⟨ρ, st, d, ds, rs, rd, rds, o⟩ := q
  cases e : g d ds st with
  | none => rw [e] at o; exact o.elim
  | some p =>
    obtain ⟨d', st'⟩ := p
    rw [e] at o
    exact h pins s σ H x xs v us Q I rx rxs (i ρ H st d ds x xs Q d' st' rs rd rds e o)
/-- the built-in type of a value -/
def tyName (st : Store) (d : D) : Option String := match d with
  | .non => some "NoneType"
  | .bl _ => some "bool"
  | .int _ => some "int"
  | .str _ => some "str"
  | .tup _ => some "tuple"
  | .lst _ => some "list"
  | .scr _ => some "list"
  | .obj n => match st[n]? with
    | some (.lst _) => some "list"
    | some (.dk _) => some "dict"
    | none => none
  | _ => none
theorem tyName_ok {K : PySem.W.Frag} {ρ : Pl} {H : Hp} {st : Store} {d : D} {v : V} {T : String} (rs : RelSt K ρ H st) (r : RelD K ρ H d v) (e : tyName st d = some T) : TyX K H v (.type T) := by
  cases r with
  | non => cases e; exact .base .non
  | bl b => cases e; exact .base (.bl b)
  | int i => cases e; exact .base (.int i)
  | str x => cases e; exact .base (.str x)
  | ty n => cases e
  | adr a => cases e
  | tup h n t =>
    cases e
    rcases h with h | ⟨o, h⟩
    · exact .base (.tup h)
    · exact .fTuple h
  | tupK h t =>
    cases e
    rcases h with h | ⟨o, its, n, h1, h2, h3⟩
    · rcases h with h | ⟨o, h⟩ <;> cases h
    · exact .kTuple h1 h2
  | lst h n t => cases e; exact .base (.lst h)
  | scr h n t =>
    cases e
    rcases h with h | ⟨o, h⟩
    · exact .base (.lst h)
    · exact .base (.frz h)
  | scrK h t =>
    cases e
    rcases h with h | ⟨o, its, n, h1, h2, h3⟩
    · rcases h with h | ⟨o, h⟩ <;> cases h
    · exact .kList h1 h2
  | @obj n a h =>
    simp only [tyName] at e
    split at e
    · rename_i xs q
      cases e
      obtain ⟨vs, h1, _⟩ := rs.at_ n a _ h q
      exact .base (.lst h1)
    · rename_i kvs q
      cases e
      obtain ⟨vs, h1, _⟩ := rs.at_ n a _ h q
      exact .base (.dK h1)
    · cases e
/-- isinstance(x, T) -/
def isiD (ds : List D) (st : Store) : Option (D × Store) := match ds with
  | [x, .ty n] => match tyName st x with
    | some t => (kitB t n).map fun b => (.bl b, st)
    | none => none
  | _ => none
theorem RelDs.one {K : PySem.W.Frag} {ρ : Pl} {H : Hp} {d : D} {vs : List V} (r : RelDs K ρ H [d] vs) : ∃ v, vs = [v] ∧ RelD K ρ H d v := by
  cases r with | cons a t => cases t; exact ⟨_, rfl, a⟩
theorem RelDs.two {K : PySem.W.Frag} {ρ : Pl} {H : Hp} {d e : D} {vs : List V} (r : RelDs K ρ H [d, e] vs) : ∃ v u, vs = [v, u] ∧ RelD K ρ H d v ∧ RelD K ρ H e u := by
  cases r with | cons a t => cases t with | cons b t => cases t; exact ⟨_, _, rfl, a, b⟩
theorem cd_isi : CallD X (.builtin "isinstance") isiD := CallD.by call_isi fun ρ H st ds vs Q d st' rs rd e q => by
  unfold isiD at e
  split at e
  · rename_i x n
    obtain ⟨v, u, rfl, r1, r2⟩ := rd.two
    cases r2
    split at e
    · rename_i t et
      rw [Option.map_eq_some_iff] at e
      obtain ⟨k, e1, e2⟩ := e
      cases e2
      exact ⟨v, .ty n, _, _, k, rfl, .ty n, tyName_ok rs r1 et, kit_ty e1, q ρ H _ Ext.refl rs (.bl _)⟩
    · cases e
  · cases e
/-- len(x) -/
def lenD (ds : List D) (st : Store) : Option (D × Store) := match ds with
  | [.str x] => if x.length ≤ 16777216 then some (.int x.length, st) else none
  | [d] => match seqA st d with
    | some xs => some (.int xs.length, st)
    | none => none
  | _ => none
theorem cd_len : CallD X (.builtin "len") lenD := CallD.by call_len fun ρ H st ds vs Q d st' rs rd e q => by
  unfold lenD at e
  split at e
  · rename_i x
    obtain ⟨v, rfl, r1⟩ := rd.one
    cases r1
    split at e
    · rename_i hl
      cases e
      exact ⟨.str x, x.length, rfl, ⟨line_le hl, rfl⟩, q ρ H _ Ext.refl rs (.int _)⟩
    · cases e
  · rename_i x _
    obtain ⟨v, rfl, r1⟩ := rd.one
    split at e
    · rename_i xs ex
      cases e
      obtain ⟨p, ws, rfl, h1, h2⟩ := seqA_ok rs r1 ex
      refine ⟨.ref p, ws.length, rfl, ?_, q ρ H _ Ext.refl rs (by rw [← h2.length]; exact .int _)⟩
      rcases h1 with h1 | h1
      · exact .inl ⟨ws, h1, rfl⟩
      · exact .inr ⟨ws, h1, rfl⟩
    · cases e
  · cases e
/-- int(x) -/
def intD (ds : List D) (st : Store) : Option (D × Store) := match ds with
  | [.int i] => some (.int i, st)
  | [.bl k] => some (.int (if k then 1 else 0), st)
  | _ => none
theorem cd_int : CallD X (.type "int") intD := CallD.by call_int1 fun ρ H st ds vs Q d st' rs rd e q => by
  unfold intD at e
  split at e
  · rename_i i
    cases e
    obtain ⟨v, rfl, r1⟩ := rd.one
    cases r1
    exact .inl ⟨i, rfl, q ρ H _ Ext.refl rs (.int _)⟩
  · rename_i k
    cases e
    obtain ⟨v, rfl, r1⟩ := rd.one
    cases r1
    exact .inr ⟨k, rfl, q ρ H _ Ext.refl rs (.int _)⟩
  · cases e
def ordD (ds : List D) (st : Store) : Option (D × Store) := match ds with
  | [.str x] => if x.length = 1 then some (.int (x.cps.getD 0 0 : Nat), st) else none
  | _ => none
theorem cd_ord : CallD X (.builtin "ord") ordD := CallD.by call_ord fun ρ H st ds vs Q d st' rs rd e q => by
  unfold ordD at e
  split at e
  · rename_i x
    obtain ⟨v, rfl, r1⟩ := rd.one
    cases r1
    split at e
    · rename_i hl
      cases e
      exact ⟨x, rfl, hl, q ρ H _ Ext.refl rs (.int _)⟩
    · cases e
  · cases e
def strD (ds : List D) (st : Store) : Option (D × Store) := match ds with
  | [.int i] => if i.natAbs.log2 < 1920 then some (.str (toString i), st) else none
  | _ => none
theorem cd_str : CallD X (.type "str") strD := CallD.by call_str_int fun ρ H st ds vs Q d st' rs rd e q => by
  unfold strD at e
  split at e
  · rename_i i
    obtain ⟨v, rfl, r1⟩ := rd.one
    cases r1
    split at e
    · rename_i hl
      cases e
      exact ⟨i, rfl, hl, q ρ H _ Ext.refl rs (.str _)⟩
    · cases e
  · cases e
def min2D (mx : Bool) (ds : List D) (st : Store) : Option (D × Store) := match ds with
  | [.int i, .int j] => some (.int (if mx then (if j > i then j else i) else (if j < i then j else i)), st)
  | _ => none
theorem cd_min2 (hc : X.calm = true) : CallD X (.builtin "min") (min2D false) := CallD.by (call_min2 hc) fun ρ H st ds vs Q d st' rs rd e q => by
  unfold min2D at e
  split at e
  · rename_i i j
    cases e
    obtain ⟨v, u, rfl, r1, r2⟩ := rd.two
    cases r1; cases r2
    exact ⟨i, j, rfl, q ρ H _ Ext.refl rs (.int _)⟩
  · cases e
theorem cd_max2 (hc : X.calm = true) : CallD X (.builtin "max") (min2D true) := CallD.by (call_max2 hc) fun ρ H st ds vs Q d st' rs rd e q => by
  unfold min2D at e
  split at e
  · rename_i i j
    cases e
    obtain ⟨v, u, rfl, r1, r2⟩ := rd.two
    cases r1; cases r2
    exact ⟨i, j, rfl, q ρ H _ Ext.refl rs (.int _)⟩
  · cases e
/-- bools of a list -/
def blsOf : List D → Option (List Bool)
  | [] => some []
  | .bl k :: r => (blsOf r).map (k :: ·)
  | _ => none
theorem blsOf_ok {K : PySem.W.Frag} {ρ : Pl} {H : Hp} : ∀ {ds : List D} {vs : List V} {bs : List Bool}, RelDs K ρ H ds vs → blsOf ds = some bs → vs = bs.map V.bl
  | [], _, _, r, e => by cases r; cases e; rfl
  | d :: ds, _, bs, r, e => by
    cases r with
    | cons r1 r2 =>
      cases r1 with
      | bl k =>
        simp only [blsOf, Option.map_eq_some_iff] at e
        obtain ⟨cs, e1, rfl⟩ := e
        rw [blsOf_ok r2 e1]
        rfl
      | _ => cases e
def allD (any : Bool) (ds : List D) (st : Store) : Option (D × Store) := match ds with
  | [d] => ((seqL st d).bind blsOf).map fun bs => (.bl (if any then bs.any id else bs.all id), st)
  | _ => none
theorem cd_all (hc : X.calm = true) : CallD X (.builtin "all") (allD false) := CallD.by (cr_all hc) fun ρ H st ds vs Q d st' rs rd e q => by
  unfold allD at e
  split at e
  · rename_i x
    rw [Option.map_eq_some_iff] at e
    obtain ⟨bs, e1, e2⟩ := e
    cases e2
    rw [Option.bind_eq_some_iff] at e1
    obtain ⟨xs, e3, e4⟩ := e1
    obtain ⟨v, rfl, r1⟩ := rd.one
    obtain ⟨p, ws, rfl, h1, h2⟩ := seqL_ok rs r1 e3
    have := blsOf_ok h2 e4
    subst this
    exact ⟨p, bs, rfl, h1, q ρ H _ Ext.refl rs (.bl _)⟩
  · cases e
theorem cd_any (hc : X.calm = true) : CallD X (.builtin "any") (allD true) := CallD.by (cr_any hc) fun ρ H st ds vs Q d st' rs rd e q => by
  unfold allD at e
  split at e
  · rename_i x
    rw [Option.map_eq_some_iff] at e
    obtain ⟨bs, e1, e2⟩ := e
    cases e2
    rw [Option.bind_eq_some_iff] at e1
    obtain ⟨xs, e3, e4⟩ := e1
    obtain ⟨v, rfl, r1⟩ := rd.one
    obtain ⟨p, ws, rfl, h1, h2⟩ := seqL_ok rs r1 e3
    have := blsOf_ok h2 e4
    subst this
    exact ⟨p, bs, rfl, h1, q ρ H _ Ext.refl rs (.bl _)⟩
  · cases e
/-- list(x), tuple(x) of a list, a tuple; m: the list has a number -/
def listD (m : Bool) (ds : List D) (st : Store) : Option (D × Store) := match ds with
  | [d] => match seqA st d with
    | some xs => if m then some (.obj st.length, st ++ [.lst xs]) else some (.lst xs, st)
    | none => none
  | _ => none
theorem cd_list (m : Bool) : CallD X (.type "list") (listD m) := CallD.by call_list_of fun ρ H st ds vs Q d st' rs rd e q => by
  unfold listD at e
  split at e
  · rename_i x
    obtain ⟨v, rfl, r1⟩ := rd.one
    split at e
    · rename_i xs ex
      obtain ⟨p, ws, rfl, h1, h2⟩ := seqA_ok rs r1 ex
      refine ⟨p, ws, rfl, h1, fun l hl => ?_⟩
      cases m with
      | false =>
        rw [if_neg Bool.false_ne_true] at e
        cases e
        exact q ρ _ _ (Ext.new rs hl) (rs.new hl) (new_lst rs hl h2)
      | true =>
        rw [if_pos rfl] at e
        cases e
        exact q _ _ _ (Ext.newO rs hl) (rs.newO hl ⟨ws, upd_same, h2.ext (Ext.newO rs hl)⟩) (.obj (rs.last _))
    · cases e
  · cases e
def tupleD (ds : List D) (st : Store) : Option (D × Store) := match ds with
  | [d] => match seqA st d with
    | some xs => some (.tup xs, st)
    | none => none
  | _ => none
theorem cd_tuple : CallD X (.type "tuple") tupleD := CallD.by call_tuple_of fun ρ H st ds vs Q d st' rs rd e q => by
  unfold tupleD at e
  split at e
  · rename_i x
    obtain ⟨v, rfl, r1⟩ := rd.one
    split at e
    · rename_i xs ex
      cases e
      cases x with
      | tup ys =>
        obtain ⟨p, ws, rfl, h1, h2⟩ := tup_ok r1
        cases ex
        exact ⟨p, ws, rfl, .inr ⟨h1, q ρ H _ Ext.refl rs r1⟩⟩
      | _ =>
        obtain ⟨p, ws, rfl, h1, h2⟩ := seqL_ok rs r1 ex
        exact ⟨p, ws, rfl, .inl ⟨h1, fun l hl => q ρ _ _ (Ext.new rs hl) (rs.new hl) (new_tup rs hl h2)⟩⟩
    · cases e
  · cases e
/-- sum of a list of whole numbers -/
def intsOf : List D → Option (List Int)
  | [] => some []
  | .int i :: r => (intsOf r).map (i :: ·)
  | _ => none
theorem intsOf_ok {K : PySem.W.Frag} {ρ : Pl} {H : Hp} : ∀ {ds : List D} {vs : List V} {bs : List Int}, RelDs K ρ H ds vs → intsOf ds = some bs → vs = bs.map V.int
  | [], _, _, r, e => by cases r; cases e; rfl
  | d :: ds, _, bs, r, e => by
    cases r with
    | cons r1 r2 =>
      cases r1 with
      | int k =>
        simp only [intsOf, Option.map_eq_some_iff] at e
        obtain ⟨cs, e1, rfl⟩ := e
        rw [intsOf_ok r2 e1]
        rfl
      | _ => cases e
def sumD (ds : List D) (st : Store) : Option (D × Store) := match ds with
  | [d] => ((seqL st d).bind intsOf).map fun ns => (.int ns.sum, st)
  | _ => none
theorem cd_sum (hc : X.calm = true) : CallD X (.builtin "sum") sumD := CallD.by (cr_sum hc) fun ρ H st ds vs Q d st' rs rd e q => by
  unfold sumD at e
  split at e
  · rename_i x
    rw [Option.map_eq_some_iff] at e
    obtain ⟨bs, e1, e2⟩ := e
    cases e2
    rw [Option.bind_eq_some_iff] at e1
    obtain ⟨xs, e3, e4⟩ := e1
    obtain ⟨v, rfl, r1⟩ := rd.one
    obtain ⟨p, ws, rfl, h1, h2⟩ := seqL_ok rs r1 e3
    have := intsOf_ok h2 e4
    subst this
    exact ⟨p, bs, rfl, h1, q ρ H _ Ext.refl rs (.int _)⟩
  · cases e
end
end DL
end
section
/-! DL8: repr; methods of lists, dicts, texts. -/
namespace DL
open PySem PySem.Spec PyProof.Rows L2
section
variable {X : Cx} {W : WX} {a b c o : Expr} {fa fb fc fo : FF D} {pos apos cpos : Pos} {es : List Expr} {fs : FF (List D)}
/-! repr -/
def reprD (ds : List D) (st : Store) : Option (D × Store) := match ds with
  | [d] => match toPS st d with
    | some p => if p.showable && SeqAt.shaped p && decide (p.shown.length ≤ 16777216) then some (.str p.shown, st) else none
    | none => none
  | _ => none
theorem cd_repr (hg : X.A.guards = some []) (hu : X.A.units + 80 < cLine) : CallD X (.builtin "repr") reprD := by
  intro pins s σ H xs us Q I rx q
  obtain ⟨ρ, st, ds, rs, rd, q⟩ := q
  unfold reprD at q
  split at q
  · rename_i d e
    skip
    split at e
    · rename_i x
      split at e
      · rename_i p hp
        split at e
        · rename_i hc
          cases e
          rw [Bool.and_eq_true, Bool.and_eq_true] at hc
          obtain ⟨⟨h1, h2⟩, h3⟩ := hc
          have h3 := line_le (of_decide_eq_true h3)
          obtain ⟨v, rfl, r1⟩ := rd.one
          obtain ⟨u, rfl, ru⟩ := Vals.one rx
          have hd := toPS_ok rs r1 hp
          obtain ⟨as, hr⟩ := Dp.reads I p v u hd ru
          have fin : ∀ h' t tk, (∀ b o, s.heap.get? b = some o → h'.get? b = some o) → EP X pins σ Q (.str p.shown t) { s with heap := h', toks := tk } := fun h' t tk hk =>
            ⟨.str p.shown, H, I.kept hk, ⟨t, rfl⟩, q ρ H _ Ext.refl rs (.str _)⟩
          have dep := SeqAt.depth_of_shaped h2
          have nod := PyData.hasDict_of_canLay p (SeqAt.canLay_of_shaped h2)
          cases hd with
          | non => cases ru; exact PySem.P.repr_of_none (fin s.heap _ _ fun _ _ e => e)
          | bl k => cases ru; exact PySem.P.repr_of_bool (fin s.heap _ _ fun _ _ e => e)
          | int i => obtain ⟨t, rfl⟩ := ru; exact PySem.P.repr_of_int (of_decide_eq_true h1) (fin s.heap _ _ fun _ _ e => e)
          | str z => obtain ⟨t, rfl⟩ := ru; exact PySem.P.repr_of_str (fin s.heap _ _ fun _ _ e => e) h3
          | lst h t => cases ru; exact PySem.repr_of_reads' hr h1 (PyData.noDict_hsm nod) hg (by omega) (fun _ _ e => e) fin h3
          | tup h t => cases ru; exact PySem.repr_of_reads' hr h1 (PyData.noDict_hsm nod) hg (by omega) (fun _ _ e => e) fin h3
        · cases e
      · cases e
    · cases e
  · exact q.elim
/-! method calls -/
def superish : Expr → Bool
  | .Call (.Name _ _) [] [] _ => true
  | _ => false
theorem base_plain {m : Str} {env : PySem.Env} {w : Sem Value} (h : superish o = false) : attributeBase o m env w = w := by
  unfold attributeBase
  split
  · cases h
  · rfl
def starless (es : List Expr) : Bool := es.all fun e => !PySem.W.isStarred e
theorem star_all : ∀ {es : List Expr} {env : PySem.Env} {pos : Pos}, starless es = true → (backTo pos (starEach es env)).all (fun x => !x.1) = true
  | [], _, _, _ => rfl
  | e :: es, env, pos, h => by
    unfold starless at h
    rw [List.all_cons, Bool.and_eq_true, Bool.not_eq_true'] at h
    rw [star_plain h.1]
    show (true && (backTo pos (starEach es env)).all (fun x => !x.1)) = true
    rw [Bool.true_and]
    exact star_all h.2
theorem few_ok {env : PySem.Env} (h : starless es = true) (hl : es.length < 29) : ((backTo cpos (starEach es env)).all (fun x => !x.1) && (backToKw cpos (keywordEach [] env)).all (fun x => x.1.isSome)
      && decide (es.length + ([] : List Keyword).length + (if ([] : List Keyword).isEmpty then 0 else 1) < 30)) = true := by
  rw [star_all h]
  show (true && true && decide (es.length + 0 + 0 < 30)) = true
  rw [decide_eq_true (by omega)]
  rfl
/-- receiver, then arguments, then the method -/
def fmeth (T : String) (g : D → List D → Store → Option (D × Store)) (fo : FF D) (fs : FF (List D)) : FF D := fun env st => (fo env st).bind fun d st1 => if tyName st1 d = some T then (fs env st1).bind fun ds st2 => ofO (g d ds st2) else .stuck
theorem tyV_of {K : PySem.W.Frag} {ρ : Pl} {H : Hp} {st : Store} {d : D} {v : V} {T : String} (rs : RelSt K ρ H st) (r : RelD K ρ H d v) (e : tyName st d = some T) (hT : T = "str" ∨ T = "list" ∨ T = "dict") : tyV K T v H := by
  cases r with
  | str x => cases e; rfl
  | lst h n t => cases e; exact .inl ⟨rfl, _, .inl (.inl h)⟩
  | scr h n t => cases e; exact .inl ⟨rfl, _, .inl h⟩
  | @scrK _ vs _ h t =>
    cases e
    refine .inl ⟨rfl, vs, .inr ?_⟩
    rcases h with h | h
    · rcases h with h | ⟨o, h⟩ <;> cases h
    · exact h
  | @obj n a h =>
    simp only [tyName] at e
    split at e
    · rename_i xs q
      cases e
      obtain ⟨vs, h1, _⟩ := rs.at_ n a _ h q
      exact .inl ⟨rfl, _, .inl (.inl h1)⟩
    · rename_i kvs q
      cases e
      obtain ⟨vs, h1, _⟩ := rs.at_ n a _ h q
      exact .inr (.inr (.inl ⟨rfl, .inl ⟨_, h1⟩⟩))
    · cases e
  | non => cases e; exact absurd hT (by decide)
  | bl => cases e; exact absurd hT (by decide)
  | int => cases e; exact absurd hT (by decide)
  | tup => cases e; exact absurd hT (by decide)
  | tupK => cases e; exact absurd hT (by decide)
  | ty => cases e
  | adr => cases e
theorem de_meth {T id : String} {name : Str} {g : D → List D → Store → Option (D × Store)} (pa : PlainAttrs T) (slot : Slot T name id) (hty : typeOf (.builtin id) = pure (.type "method_descriptor")) (hT : T = "str" ∨ T = "list" ∨ T = "dict")
    (hm : MtD X id g) (ho : DE X W o fo) (ha : DA X W (a :: es) fs) (hsup : superish o = false) (hline : (apos.endLine == cpos.line) = true) (hst : starless (a :: es) = true) (hl : (a :: es).length < 29) :
    DE X W (.Call (.Attribute o name apos) (a :: es) [] cpos) (fmeth T g fo fs) := by
  have hst' := hst
  unfold starless at hst'
  rw [List.all_cons, Bool.and_eq_true, Bool.not_eq_true'] at hst'
  refine PE.imp (pe_bm pa slot hty hm ho ha (base_plain hsup) (few_ok hst hl) hline (star_plain hst'.1) (plain_star hst'.2)) fun σ H Q h => ?_
  obtain ⟨ρ, env, st, gd, q⟩ := h
  refine ⟨ρ, env, st, gd, (OutR.bind (R := RelD X.K) q).mono ?_⟩
  rintro v H1 ⟨ρ1, d, st1, -, e1, s1, r1, o1⟩
  split at o1
  · rename_i ht
    refine ⟨tyV_of s1 r1 ht hT, ρ1, env, st1, gd.ext e1 s1, (OutR.bind (R := RelDs X.K) o1).mono ?_⟩
    rintro vs H2 ⟨ρ2, ds, st2, -, e2, s2, r2, o2⟩
    refine ⟨ρ2, st2, d, ds, s2, r1.ext e2, r2, ?_⟩
    cases e : g d ds st2 with
    | none => rw [e] at o2; exact o2.elim
    | some p => rw [e] at o2; exact o2
  · exact o1.elim
theorem de_meth0 {T id : String} {name : Str} {g : D → List D → Store → Option (D × Store)} (pa : PlainAttrs T) (slot : Slot T name id) (hty : typeOf (.builtin id) = pure (.type "method_descriptor")) (hT : T = "str" ∨ T = "list" ∨ T = "dict")
    (hm : MtD X id g) (ho : DE X W o fo) (hsup : superish o = false) (hline : (apos.endLine == cpos.line) = true) :
    DE X W (.Call (.Attribute o name apos) [] [] cpos) (fmeth T g fo fnil) := by
  refine PE.imp (pe_bm0 pa slot hty hm ho (base_plain hsup) hline) fun σ H Q h => ?_
  obtain ⟨ρ, env, st, gd, q⟩ := h
  refine ⟨ρ, env, st, gd, (OutR.bind (R := RelD X.K) q).mono ?_⟩
  rintro v H1 ⟨ρ1, d, st1, -, e1, s1, r1, o1⟩
  split at o1
  · rename_i ht
    refine ⟨tyV_of s1 r1 ht hT, ρ1, st1, d, [], s1, r1, .nil, ?_⟩
    cases e : g d [] st1 with
    | none => change OutE X.K W ρ1 H1 σ (ofO (g d [] st1)) Q at o1; rw [e] at o1; exact o1.elim
    | some p => change OutE X.K W ρ1 H1 σ (ofO (g d [] st1)) Q at o1; rw [e] at o1; exact o1
  · exact o1.elim
/-! lists -/
def lstAt (st : Store) : D → Option (Nat × List D)
  | .obj n => match st[n]? with | some (.lst xs) => some (n, xs) | _ => none
  | _ => none
theorem lstAt_ok {K : PySem.W.Frag} {ρ : Pl} {H : Hp} {st : Store} {d : D} {v : V} {n : Nat} {xs : List D} (rs : RelSt K ρ H st) (r : RelD K ρ H d v) (e : lstAt st d = some (n, xs)) :
    ∃ a vs, v = .ref a ∧ ρ.r[n]? = some a ∧ H a = some (.lst vs) ∧ RelDs K ρ H xs vs := by
  cases r with
  | @obj m a h =>
    simp only [lstAt] at e
    split at e
    · rename_i ys q
      cases e
      obtain ⟨vs, h1, h2⟩ := rs.at_ _ a _ h q
      exact ⟨a, vs, rfl, h, h1, h2⟩
    · cases e
  | _ => cases e
/-- behind a change of the list -/
theorem lst_changed {K : PySem.W.Frag} {ρ : Pl} {H : Hp} {st : Store} {n : Nat} {a : Addr} {xs : List D} {vs : List V} {d : D} {v : V} {Q : VK} (rs : RelSt K ρ H st) (h : ρ.r[n]? = some a) (r : RelDs K ρ H xs vs) (rd : RelD K ρ H d v)
    (q : ∀ ρ' H' v, Ext ρ H ρ' H' → RelSt K ρ' H' (st.set n (.lst xs)) → RelD K ρ' H' d v → Q v H') : Q v (upd H a (.lst vs)) :=
  q ρ _ _ (Ext.mut rs h) (rs.set h ⟨vs, upd_same, r.ext (Ext.mut rs h)⟩) (rd.ext (Ext.mut rs h))
def appendD (d : D) (ds : List D) (st : Store) : Option (D × Store) := match lstAt st d, ds with
  | some (n, xs), [y] => if xs.length < 16777216 then some (.non, st.set n (.lst (xs ++ [y]))) else none
  | _, _ => none
theorem md_append : MtD X "list.append" appendD := MtD.by mt_append fun ρ H st d ds v vs Q e st' rs rd rds h q => by
  unfold appendD at h
  split at h
  · rename_i n xs y hl
    split at h
    · rename_i hlen
      cases h
      obtain ⟨p, ws, rfl, h1, h2, h3⟩ := lstAt_ok rs rd hl
      obtain ⟨u, rfl, r1⟩ := rds.one
      exact ⟨p, ws, u, rfl, rfl, h2, by rw [sizeLine_eq, ← h3.length]; exact hlen, lst_changed rs h1 (h3.append (.cons r1 .nil)) .non q⟩
    · cases h
  · cases h
def extendD (d : D) (ds : List D) (st : Store) : Option (D × Store) := match lstAt st d, ds with
  | some (n, xs), [y] => match seqO st y with
    | some ys => if xs.length + ys.length ≤ 16777216 then some (.non, st.set n (.lst (xs ++ ys))) else none
    | none => none
  | _, _ => none
theorem md_extend : MtD X "list.extend" extendD := MtD.by mt_extend fun ρ H st d ds v vs Q e st' rs rd rds h q => by
  unfold extendD at h
  split at h
  · rename_i n xs y hl
    split at h
    · rename_i ys hy
      split at h
      · rename_i hlen
        cases h
        obtain ⟨p, ws, rfl, h1, h2, h3⟩ := lstAt_ok rs rd hl
        obtain ⟨u, rfl, r1⟩ := rds.one
        obtain ⟨p', zs, rfl, h4, h5⟩ := seqO_ok rs r1 hy
        exact ⟨p, p', ws, zs, rfl, rfl, h2, h4, line_le (by rw [← h3.length, ← h5.length]; exact hlen), lst_changed rs h1 (h3.append h5) .non q⟩
      · cases h
    · cases h
  · cases h
def popAtD (d : D) (ds : List D) (st : Store) : Option (D × Store) := match lstAt st d, ds with
  | some (n, xs), [.int i] => if -(2 ^ 63) ≤ i ∧ i < 2 ^ 63 then (match seqIndex? i xs.length with
    | some k => match xs[k]? with | some y => some (y, st.set n (.lst (xs.eraseIdx k))) | none => none
    | none => none) else none
  | _, _ => none
theorem md_popAt : MtD X "list.pop" popAtD := MtD.by mt_popAt fun ρ H st d ds v vs Q e st' rs rd rds h q => by
  unfold popAtD at h
  split at h
  · rename_i n xs i hl
    split at h
    · rename_i hi
      split at h
      · rename_i k hk
        split at h
        · rename_i y hy
          cases h
          obtain ⟨p, ws, rfl, h1, h2, h3⟩ := lstAt_ok rs rd hl
          obtain ⟨u, rfl, r1⟩ := rds.one
          cases r1
          obtain ⟨w, h4, h5⟩ := h3.get hy
          exact ⟨p, ws, i, k, w, rfl, rfl, h2, hi.1, hi.2, by rw [← h3.length]; exact hk, h4, lst_changed rs h1 (h3.eraseIdx k) h5 q⟩
        · cases h
      · cases h
    · cases h
  · cases h
def popD (d : D) (ds : List D) (st : Store) : Option (D × Store) := match lstAt st d, ds with
  | some (n, xs), [] => match xs[xs.length - 1]? with | some y => some (y, st.set n (.lst xs.dropLast)) | none => none
  | _, _ => none
theorem md_pop : MtD X "list.pop" popD := MtD.by mt_pop fun ρ H st d ds v vs Q e st' rs rd rds h q => by
  unfold popD at h
  split at h
  · rename_i n xs hl
    split at h
    · rename_i y hy
      cases h
      obtain ⟨p, ws, rfl, h1, h2, h3⟩ := lstAt_ok rs rd hl
      cases rds
      obtain ⟨w, h4, h5⟩ := h3.get hy
      exact ⟨p, ws, w, rfl, rfl, h2, by rw [← h3.length]; exact h4, lst_changed rs h1 h3.dropLast h5 q⟩
    · cases h
  · cases h
/-- the first place of a flat item -/
def idxOfV (y : V) : List V → Option Nat
  | [] => none
  | z :: r => if eqV z y then some 0 else (idxOfV y r).map (· + 1)
theorem idxOfV_ok {y : V} : ∀ {l : List V} {j : Nat}, idxOfV y l = some j → (∃ z, l[j]? = some z ∧ eqV z y = true) ∧ ∀ (m : Nat) (z : V), m < j → l[m]? = some z → eqV z y = false
  | [], _, e => by cases e
  | z :: r, j, e => by
    simp only [idxOfV] at e
    split at e
    · rename_i h
      cases e
      exact ⟨⟨z, rfl, h⟩, fun m _ hm => absurd hm (Nat.not_lt_zero _)⟩
    · rename_i h
      rw [Option.map_eq_some_iff] at e
      obtain ⟨k, e1, rfl⟩ := e
      obtain ⟨⟨w, h1, h2⟩, h3⟩ := idxOfV_ok e1
      refine ⟨⟨w, by simpa using h1, h2⟩, fun m u hm hu => ?_⟩
      cases m with
      | zero =>
        simp only [List.getElem?_cons_zero, Option.some.injEq] at hu
        subst hu
        simpa using h
      | succ m => exact h3 m u (by omega) (by simpa using hu)
def indexD (d : D) (ds : List D) (st : Store) : Option (D × Store) := match (seqL st d).bind flatDs, ds with
  | some vs, [y] => match flatD y with
    | some v => (idxOfV v vs).map fun j => (.int (j : Nat), st)
    | none => none
  | _, _ => none
theorem md_index : MtD X "list.index" indexD := MtD.by mt_index fun ρ H st d ds v vs Q e st' rs rd rds h q => by
  unfold indexD at h
  split at h
  · rename_i ws y hl
    split at h
    · rename_i w hw
      rw [Option.map_eq_some_iff] at h
      obtain ⟨j, h1, h2⟩ := h
      cases h2
      rw [Option.bind_eq_some_iff] at hl
      obtain ⟨xs, h3, h4⟩ := hl
      obtain ⟨p, zs, rfl, h5, h6⟩ := seqL_ok rs rd h3
      obtain ⟨u, rfl, r1⟩ := rds.one
      obtain ⟨rfl, f1⟩ := flatD_ok r1 hw
      obtain ⟨rfl, f2⟩ := flatDs_ok h6 h4
      obtain ⟨⟨z, g1, g2⟩, g3⟩ := idxOfV_ok h1
      exact ⟨p, zs, u, j, z, rfl, rfl, h5, f1, f2, g1, g2, g3, q ρ H _ Ext.refl rs (.int _)⟩
    · cases h
  · cases h
/-! texts -/
def upperD (d : D) (ds : List D) (st : Store) : Option (D × Store) := match d, ds with
  | .str x, [] => if x.length ≤ 5592405 then some (.str (Txt.upper x), st) else none
  | _, _ => none
theorem md_upper : MtD X "str.upper" upperD := MtD.by mt_upper fun ρ H st d ds v vs Q e st' rs rd rds h q => by
  unfold upperD at h
  split at h
  · rename_i x
    split at h
    · rename_i hl
      cases h
      cases rd
      cases rds
      exact ⟨x, rfl, rfl, hl, q ρ H _ Ext.refl rs (.str _)⟩
    · cases h
  · cases h
/-! dicts -/
def getD1 (d : D) (ds : List D) (st : Store) : Option (D × Store) := match dctO st d, ds with
  | some kvs, [y] => match keyD y with
    | some k => some ((getK kvs k).getD .non, st)
    | none => none
  | some kvs, [y, z] => match keyD y with
    | some k => some ((getK kvs k).getD z, st)
    | none => none
  | _, _ => none
theorem md_get (hu : X.A.units + 1 < cLine) : MtD X "dict.get" getD1 := by
  intro pins s σ H x xs v us Q I rx rxs q
  obtain ⟨ρ, st, d, ds, rs, rd, rds, q⟩ := q
  unfold getD1 at q
  split at q
  · rename_i e st' h
    split at h
    · rename_i kvs y hd
      split at h
      · rename_i k hk
        cases h
        obtain ⟨p, vvs, rfl, h1, h2, h3⟩ := dctO_ok rs rd hd
        obtain ⟨w, rfl, r1⟩ := rds.one
        obtain ⟨u, rfl, ru⟩ := Vals.one rxs
        have hw := keyD_ok r1 hk
        subst hw
        cases rx
        refine d_get1 hu I (DGet.k h1) ru fun w' s' I' r' => ⟨_, H, I', r', ?_⟩
        rcases getK_ok k h2 h3 with ⟨g1, g2⟩ | ⟨d', w, g1, g2, g3⟩
        · rw [g2]; rw [g1] at q; exact q ρ H _ Ext.refl rs .non
        · rw [g2]; rw [g1] at q; exact q ρ H _ Ext.refl rs g3
      · cases h
    · rename_i kvs y z hd
      split at h
      · rename_i k hk
        cases h
        obtain ⟨p, vvs, rfl, h1, h2, h3⟩ := dctO_ok rs rd hd
        obtain ⟨w, w2, rfl, r1, r2⟩ := rds.two
        obtain ⟨u, u2, rfl, ru, ru2⟩ := Vals.two rxs
        have hw := keyD_ok r1 hk
        subst hw
        cases rx
        refine d_get2 hu I (DGet.k h1) ru ru2 fun w' s' I' r' => ⟨_, H, I', r', ?_⟩
        rcases getK_ok k h2 h3 with ⟨g1, g2⟩ | ⟨d', w, g1, g2, g3⟩
        · rw [g2]; rw [g1] at q; exact q ρ H _ Ext.refl rs r2
        · rw [g2]; rw [g1] at q; exact q ρ H _ Ext.refl rs g3
      · cases h
    · cases h
  · exact q.elim
end
end DL
end
section
/-! DL9: targets and statements. -/
namespace DL
open PySem PySem.Spec PyProof.Rows L2
/-- how a statement ends -/
inductive RS where
  | nx (env : Env') (st : Store)
  | rt (d : D) (st : Store)
  | bk (env : Env') (st : Store)
  | ct (env : Env') (st : Store)
  | exc (x : XD) (env : Env') (st : Store)
  | stuck
abbrev FS := Env' → Store → RS
section
variable {K : PySem.W.Frag} {W : WX} {ρ ρ1 : Pl} {H H1 : Hp}
def OutS (K : PySem.W.Frag) (W : WX) (ρ : Pl) (H : Hp) (r : RS) (D : Ends) : Prop := match r with
  | .nx env st => ∀ ρ' H' σ', Ext ρ H ρ' H' → Good K ρ' H' env σ' st → D.nx σ' H'
  | .rt d st => ∀ ρ' H' v, Ext ρ H ρ' H' → RelSt K ρ' H' st → RelD K ρ' H' d v → D.rt v H'
  | .bk env st => ∀ ρ' H' σ', Ext ρ H ρ' H' → Good K ρ' H' env σ' st → D.bk σ' H'
  | .ct env st => ∀ ρ' H' σ', Ext ρ H ρ' H' → Good K ρ' H' env σ' st → D.ct σ' H'
  | .exc x env st => ∀ ρ' H' σ' cls dx, Ext ρ H ρ' H' → Good K ρ' H' env σ' st → RelX K ρ' H' x cls dx → W cls dx σ' H'
  | .stuck => False
theorem OutS.from_ {r : RS} {D : Ends} (e : Ext ρ H ρ1 H1) (h : OutS K W ρ H r D) : OutS K W ρ1 H1 r D := by
  cases r with
  | nx env st => exact fun ρ' H' σ' e' => h ρ' H' σ' (e.trans e')
  | rt d st => exact fun ρ' H' v e' => h ρ' H' v (e.trans e')
  | bk env st => exact fun ρ' H' σ' e' => h ρ' H' σ' (e.trans e')
  | ct env st => exact fun ρ' H' σ' e' => h ρ' H' σ' (e.trans e')
  | exc x env st => exact fun ρ' H' σ' c d e' => h ρ' H' σ' c d (e.trans e')
  | stuck => exact h
theorem OutS.mono {r : RS} {D D' : Ends} (h : OutS K W ρ H r D) (h1 : ∀ σ H, D.nx σ H → D'.nx σ H) (h2 : ∀ v H, D.rt v H → D'.rt v H) (h3 : ∀ σ H, D.bk σ H → D'.bk σ H) (h4 : ∀ σ H, D.ct σ H → D'.ct σ H) : OutS K W ρ H r D' := by
  cases r with
  | nx env st => exact fun ρ' H' σ' e g => h1 _ _ (h ρ' H' σ' e g)
  | rt d st => exact fun ρ' H' v e s q => h2 _ _ (h ρ' H' v e s q)
  | bk env st => exact fun ρ' H' σ' e g => h3 _ _ (h ρ' H' σ' e g)
  | ct env st => exact fun ρ' H' σ' e g => h4 _ _ (h ρ' H' σ' e g)
  | exc x env st => exact h
  | stuck => exact h
def lS (K : PySem.W.Frag) (W : WX) (f : FS) : TS := fun D σ H => ∃ ρ env st, Good K ρ H env σ st ∧ OutS K W ρ H (f env st) D
/-- an expression's outcome, then a statement's -/
def Res.toS {α : Type} (r : Res α) (env : Env') (k : α → Store → RS) : RS := match r with
  | .ok a st => k a st
  | .exc x st => .exc x env st
  | .stuck => .stuck
theorem OutS.bind {α β : Type} {R : Pl → Hp → α → β → Prop} {env : Env'} {σ : L2.St} {st : Store} {r : Res α} {k : α → Store → RS} {D : Ends} (g : Good K ρ H env σ st) (h : OutS K W ρ H (r.toS env k) D) :
    OutR R K W ρ H σ r (fun v H1 => ∃ ρ1 d st1, r = .ok d st1 ∧ Ext ρ H ρ1 H1 ∧ RelSt K ρ1 H1 st1 ∧ R ρ1 H1 d v ∧ OutS K W ρ1 H1 (k d st1) D) := by
  cases r with
  | ok d st => exact fun ρ' H' v e s q => ⟨ρ', d, st, rfl, e, s, q, OutS.from_ e h⟩
  | exc x st => exact fun ρ' H' cls dx e s q => h ρ' H' σ cls dx e (g.ext e s) q
  | stuck => exact h
def fseq (s t : FS) : FS := fun env st => match s env st with
  | .nx env' st' => t env' st'
  | r => r
end
section
variable {X : Cx} {W : WX} {a b c e : Expr} {fa fb fc : FF D} {pos : Pos} {es : List Expr} {fs : FF (List D)} {s1 s2 : FS}
abbrev DS (X : Cx) (W : WX) (st : Stmt) (f : FS) : Prop := PS X st (lS X.K W f)
abbrev DSs (X : Cx) (W : WX) (st : List Stmt) (f : FS) : Prop := PSs X st (lS X.K W f)
theorem PS.imp {st : Stmt} {t t' : TS} (h : PS X st t) (i : ∀ D σ H, t' D σ H → t D σ H) : PS X st t' := ⟨fun pins s σ H D I q => h.run pins s σ H D I (i _ _ _ q)⟩
theorem PSs.imp {st : List Stmt} {t t' : TS} (h : PSs X st t) (i : ∀ D σ H, t' D σ H → t D σ H) : PSs X st t' := ⟨fun pins s σ H D I q => h.run pins s σ H D I (i _ _ _ q)⟩
def fskip : FS := fun env st => .nx env st
theorem dss_nil : DSs X W [] fskip := PSs.imp pss_nil fun D σ H ⟨ρ, env, st, g, o⟩ => o ρ H σ Ext.refl g
theorem dss_cons {x : Stmt} {r : List Stmt} (h1 : DS X W x s1) (h2 : DSs X W r s2) : DSs X W (x :: r) (fseq s1 s2) := by
  refine PSs.imp (pss_cons h1 h2) fun D σ H h => ?_
  obtain ⟨ρ, env, st, g, o⟩ := h
  refine ⟨ρ, env, st, g, ?_⟩
  unfold fseq at o
  cases h : s1 env st with
  | nx env' st' => rw [h] at o; exact fun ρ' H' σ' ex g' => ⟨ρ', env', st', g', OutS.from_ ex o⟩
  | rt d st' => rw [h] at o; exact o
  | bk env' st' => rw [h] at o; exact o
  | ct env' st' => rw [h] at o; exact o
  | exc x env' st' => rw [h] at o; exact o
  | stuck => rw [h] at o; exact o
theorem ds_pass : DS X W (.Pass pos) fskip := PS.imp ps_pass fun D σ H ⟨ρ, env, st, g, o⟩ => o ρ H σ Ext.refl g
theorem ds_break : DS X W (.Break pos) (fun env st => .bk env st) := PS.imp ps_break fun D σ H ⟨ρ, env, st, g, o⟩ => o ρ H σ Ext.refl g
theorem ds_continue : DS X W (.Continue pos) (fun env st => .ct env st) := PS.imp ps_continue fun D σ H ⟨ρ, env, st, g, o⟩ => o ρ H σ Ext.refl g
/-- no comprehension, whose value the machine lets fall in a way of its own -/
def noComp : Expr → Bool
  | .ListComp _ _ _ _ => false
  | .SetComp _ _ _ _ => false
  | .DictComp _ _ _ _ _ => false
  | _ => true
theorem swaps_no {t : Option Expr} {l : Nat} {env : PySem.Env} (h : noComp e = true) : swapsWith e t l env = pure false := by
  cases e <;> first | rfl | cases h
def fdrop (f : FF D) : FS := fun env st => (f env st).toS env fun _ st1 => .nx env st1
theorem ds_expr (h : DE X W e fa) (hn : noComp e = true) : DS X W (.Expr e pos) (fdrop fa) := by
  refine PS.imp (ps_expr h (swaps_no hn)) fun D σ H h => ?_
  obtain ⟨ρ, env, st, g, o⟩ := h
  refine ⟨ρ, env, st, g, (OutS.bind (R := RelD X.K) g o).mono ?_⟩
  rintro v H1 ⟨ρ1, d, st1, -, e1, s1, r1, o1⟩
  exact o1 ρ1 H1 σ Ext.refl (g.ext e1 s1)
def fret (f : FF D) : FS := fun env st => (f env st).toS env fun d st1 => .rt d st1
theorem ds_ret (h : DE X W e fa) : DS X W (.Return (some e) pos) (fret fa) := by
  refine PS.imp (ps_ret h) fun D σ H h => ?_
  obtain ⟨ρ, env, st, g, o⟩ := h
  refine ⟨ρ, env, st, g, (OutS.bind (R := RelD X.K) g o).mono ?_⟩
  rintro v H1 ⟨ρ1, d, st1, -, e1, s1, r1, o1⟩
  exact o1 ρ1 H1 v Ext.refl s1 r1
theorem ds_retN : DS X W (.Return none pos) (fun _ st => .rt .non st) := PS.imp ps_retN fun D σ H ⟨ρ, env, st, g, o⟩ => o ρ H _ Ext.refl g.st .non
def fifS (t : FF Bool) (s1 s2 : FS) : FS := fun env st => (t env st).toS env fun k st1 => if k then s1 env st1 else s2 env st1
theorem ds_if {tc : FF Bool} {x y : List Stmt} (hc : DT X W c tc) (ha : DSs X W x s1) (hb : DSs X W y s2) : DS X W (.If c x y pos) (fifS tc s1 s2) := by
  refine PS.imp (ps_if hc ha hb) fun D σ H h => ?_
  obtain ⟨ρ, env, st, g, o⟩ := h
  refine ⟨ρ, env, st, g, (OutS.bind (R := RB) g o).mono ?_⟩
  rintro v H1 ⟨ρ1, d, st1, -, e1, s1, r1, o1⟩
  cases r1
  split at o1
  · rename_i h; rw [if_pos h]; exact ⟨ρ1, env, st1, g.ext e1 s1, o1⟩
  · rename_i h; rw [if_neg h]; exact ⟨ρ1, env, st1, g.ext e1 s1, o1⟩
/-! targets -/
abbrev FG := D → Env' → Store → Option (Env' × Store)
abbrev FGs := List D → Env' → Store → Option (Env' × Store)
def OutG (K : PySem.W.Frag) (ρ : Pl) (H : Hp) (r : Option (Env' × Store)) (Q : L2.St → Hp → Prop) : Prop := match r with
  | some (env', st') => ∀ ρ' H' σ', Ext ρ H ρ' H' → Good K ρ' H' env' σ' st' → Q σ' H'
  | none => False
def lG (K : PySem.W.Frag) (f : FG) : TG := fun v σ H Q => ∃ ρ env st d, Good K ρ H env σ st ∧ RelD K ρ H d v ∧ OutG K ρ H (f d env st) Q
def lGs (K : PySem.W.Frag) (f : FGs) : TGs := fun vs σ H Q => ∃ ρ env st ds, Good K ρ H env σ st ∧ RelDs K ρ H ds vs ∧ OutG K ρ H (f ds env st) Q
abbrev DG (X : Cx) (t : Expr) (f : FG) : Prop := PG X t (lG X.K f)
abbrev DGs (X : Cx) (t : List Expr) (f : FGs) : Prop := PGs X t (lGs X.K f)
theorem PG.imp {t : Expr} {g g' : TG} (h : PG X t g) (i : ∀ v σ H Q, g' v σ H Q → g v σ H Q) : PG X t g' := ⟨fun pins s σ H v u Q I r q => h.run pins s σ H v u Q I r (i _ _ _ _ q)⟩
theorem PGs.imp {t : List Expr} {g g' : TGs} (h : PGs X t g) (i : ∀ v σ H Q, g' v σ H Q → g v σ H Q) : PGs X t g' := ⟨fun pins s σ H v u Q I r q => h.run pins s σ H v u Q I r (i _ _ _ _ q)⟩
def gname (i : Nat) : FG := fun d env st => some (env.set i (some d), st)
theorem dg_name {i : Nat} {x : Str} (hN : X.N.Nodup) (hi : X.N[i]? = some x) (hx : Loc X.env.scope x) (hf : X.fn x = true ∨ X.env.scope.names.lookup x = some .local) : DG X (.Name x pos) (gname i) := by
  refine PG.imp (pg_name hN hi hx hf) fun v σ H Q h => ?_
  obtain ⟨ρ, env, st, d, g, r, o⟩ := h
  exact o ρ H _ Ext.refl ⟨g.env.set i r, g.st⟩
def gnil : FGs := fun ds env st => if ds.isEmpty then some (env, st) else none
def gcons (f : FG) (fs : FGs) : FGs := fun ds env st => match ds with
  | d :: r => match f d env st with | some (env', st') => fs r env' st' | none => none
  | [] => none
theorem dgs_nil : DGs X [] gnil := by
  refine PGs.imp pgs_nil fun vs σ H Q h => ?_
  obtain ⟨ρ, env, st, ds, g, r, o⟩ := h
  unfold gnil at o
  cases r with
  | nil => exact ⟨rfl, o ρ H _ Ext.refl g⟩
  | cons _ _ => exact o.elim
theorem assign_plain {e : Expr} {es : List Expr} {env : PySem.Env} (h : PySem.W.isStarred e = false) : assignEach (e :: es) env = (false, assign e env) :: assignEach es env := by
  cases e <;> first | rfl | (cases h)
theorem dgs_cons {f : FG} {fs : FGs} (h1 : DG X e f) (h2 : DGs X es fs) (hs : PySem.W.isStarred e = false) : DGs X (e :: es) (gcons f fs) := by
  refine PGs.imp (pgs_cons h1 h2 (by rw [assign_plain hs]; rfl)) fun vs σ H Q h => ?_
  obtain ⟨ρ, env, st, ds, g, r, o⟩ := h
  unfold gcons at o
  cases r with
  | nil => exact o.elim
  | @cons d v ds' vs' r1 r2 =>
    refine ⟨v, vs', rfl, ρ, env, st, d, g, r1, ?_⟩
    simp only at o
    cases hf : f d env st with
    | none => rw [hf] at o; exact o.elim
    | some p =>
      obtain ⟨env', st'⟩ := p
      rw [hf] at o
      intro ρ' H' σ' ex g'
      refine ⟨ρ', env', st', ds', g', r2.ext ex, ?_⟩
      simp only at o
      cases hr : fs ds' env' st' with
      | none => rw [hr] at o; exact o.elim
      | some p =>
        obtain ⟨env2, st2⟩ := p
        rw [hr] at o
        exact fun ρ2 H2 σ2 e2 g2 => o ρ2 H2 σ2 (ex.trans e2) g2
def gtup (n : Nat) (fs : FGs) : FG := fun d env st => match d with
  | .tup ds => if ds.length = n then fs ds env st else none
  | _ => none
theorem assignEach_len : ∀ {es : List Expr} {env : PySem.Env}, starless es = true → (assignEach es env).length = es.length ∧ (assignEach es env).findIdx? (·.1) = none
  | [], _, _ => ⟨rfl, rfl⟩
  | e :: es, env, h => by
    unfold starless at h
    rw [List.all_cons, Bool.and_eq_true, Bool.not_eq_true'] at h
    rw [assign_plain h.1]
    obtain ⟨h1, h2⟩ := assignEach_len (es := es) (env := env) h.2
    exact ⟨by simp [h1], by simp [List.findIdx?_cons, h2]⟩
theorem dg_tup {k : Nat} {fs : FGs} (hc : X.calm = true) (h : DGs X es fs) (hst : starless es = true) : DG X (.Tuple es k pos) (gtup es.length fs) := by
  refine PG.imp (pg_tup hc h (assignEach_len hst).1 (assignEach_len hst).2) fun v σ H Q h => ?_
  obtain ⟨ρ, env, st, d, g, r, o⟩ := h
  unfold gtup at o
  split at o
  · rename_i ds
    split at o
    · rename_i hl
      obtain ⟨p, vs, rfl, h1, h2⟩ := tup_ok r
      exact ⟨p, vs, rfl, h1, by rw [← h2.length]; exact hl, ρ, env, st, ds, g, h2, o⟩
    · exact o.elim
  · exact o.elim
/-- o[i] = d -/
def setL (o i d : D) (st : Store) : Option Store := match lstAt st o, i with
  | some (n, xs), .int k => match ixN xs.length k with | some j => some (st.set n (.lst (xs.set j d))) | none => none
  | _, _ => none
def dctAt (st : Store) : D → Option (Nat × List (Key × D))
  | .obj n => match st[n]? with | some (.dk kvs) => some (n, kvs) | _ => none
  | _ => none
theorem dctAt_ok {K : PySem.W.Frag} {ρ : Pl} {H : Hp} {st : Store} {d : D} {v : V} {n : Nat} {kvs : List (Key × D)} (rs : RelSt K ρ H st) (r : RelD K ρ H d v) (e : dctAt st d = some (n, kvs)) :
    ∃ a vvs, v = .ref a ∧ ρ.r[n]? = some a ∧ H a = some (.dK vvs) ∧ RelKV K ρ H kvs vvs := by
  cases r with
  | @obj m a h =>
    simp only [dctAt] at e
    split at e
    · rename_i ys q
      cases e
      obtain ⟨vs, h1, h2⟩ := rs.at_ _ a _ h q
      exact ⟨a, vs, rfl, h, h1, h2⟩
    · cases e
  | _ => cases e
def setK (o i d : D) (st : Store) : Option Store := match dctAt st o, keyD i with
  | some (n, kvs), some k => if kvs.length < 16777216 then some (st.set n (.dk (putKD kvs k d))) else none
  | _, _ => none
def setD (o i d : D) (st : Store) : Option Store := match lstAt st o with
  | some _ => setL o i d st
  | none => setK o i d st
def rSetD (K : PySem.W.Frag) : TSet := fun o i v H Q => ∃ ρ st od id d, RelSt K ρ H st ∧ RelD K ρ H od o ∧ RelD K ρ H id i ∧ RelD K ρ H d v ∧ match setD od id d st with
  | some st' => ∀ ρ' H', Ext ρ H ρ' H' → RelSt K ρ' H' st' → Q H'
  | none => False
theorem set_all (hu : X.A.units + 1 < cLine) : PSet X (rSetD X.K) := by
  intro pins s σ H o i v ov iv u Q I ro ri rv q
  obtain ⟨ρ, st, od, id, d, rs, r1, r2, r3, q⟩ := q
  unfold setD at q
  split at q
  · rename_i st' h
    split at h
    · unfold setL at h
      split at h
      · rename_i n xs k hl
        split at h
        · rename_i j hj
          cases h
          obtain ⟨p, ws, rfl, h1, h2, h3⟩ := lstAt_ok rs r1 hl
          cases r2
          refine set_list pins s σ H _ _ v ov iv u Q I ro ri rv ⟨p, ws, k, j, rfl, rfl, h2, by rw [← h3.length]; exact hj, ?_⟩
          exact q ρ _ (Ext.mut rs h1) (rs.set h1 ⟨_, upd_same, (h3.set r3 j).ext (Ext.mut rs h1)⟩)
        · cases h
      · cases h
    · unfold setK at h
      split at h
      · rename_i n kvs k hd hk
        split at h
        · rename_i hlen
          cases h
          obtain ⟨p, vvs, rfl, hp, h1, h2⟩ := dctAt_ok rs r1 hd
          have hw := keyD_ok r2 hk
          subst hw
          cases ro
          have hlen' : vvs.length < sizeLine := by
            have := congrArg List.length h2.1
            simp only [List.length_map] at this
            rw [sizeLine_eq, this]
            exact hlen
          refine d_setItem hu I (DPut.k h1 hlen') ri rv fun s' I' => ⟨_, I', ?_⟩
          have kv' := (RelKV.put h2 k r3).ext (Ext.mut rs (o := .dK (putK vvs k v)) hp)
          exact q ρ _ (Ext.mut rs hp) (rs.set hp ⟨_, upd_same, kv'.1, kv'.2⟩)
        · cases h
      · cases h
  · exact q.elim
def gsub (fo fi : FF D) : FG := fun d env st => match fo env st with
  | .ok o st1 => match fi env st1 with
    | .ok i st2 => (setD o i d st2).map fun st3 => (env, st3)
    | _ => none
  | _ => none
theorem dg_sub (hu : X.A.units + 1 < cLine) (ho : DE X W a fa) (hi : DE X W b fb)
    (ha : ∀ v, assign (.Subscript a b pos) X.env v = (do
      let ov ← holding [v] (eval a X.env)
      let iv ← holding [v, ov] (eval b X.env)
      standAt pos
      holding [v, ov, iv] (setItem ov iv v)
      release [v, ov, iv] [])) : DG X (.Subscript a b pos) (gsub fa fb) := by
  refine PG.imp (pg_sub ho hi (set_all hu) ha) fun v σ H Q h => ?_
  obtain ⟨ρ, env, st, d, g, r, o⟩ := h
  unfold gsub at o
  refine ⟨ρ, env, st, g, ?_⟩
  cases h1 : fa env st with
  | ok od st1 =>
    rw [h1] at o
    simp only at o
    intro ρ1 H1 v1 e1 s1 r1
    refine ⟨ρ1, env, st1, g.ext e1 s1, ?_⟩
    cases h2 : fb env st1 with
    | ok id st2 =>
      rw [h2] at o
      simp only at o
      intro ρ2 H2 v2 e2 s2 r2
      refine ⟨ρ2, st2, od, id, d, s2, r1.ext e2, r2, r.ext (e1.trans e2), ?_⟩
      cases h3 : setD od id d st2 with
      | none => rw [h3] at o; exact o.elim
      | some st3 =>
        rw [h3] at o
        exact fun ρ3 H3 e3 s3 => o ρ3 H3 σ (e1.trans (e2.trans e3)) (g.ext (e1.trans (e2.trans e3)) s3)
    | exc x st2 => rw [h2] at o; exact o.elim
    | stuck => rw [h2] at o; exact o.elim
  | exc x st1 => rw [h1] at o; exact o.elim
  | stuck => rw [h1] at o; exact o.elim
/-! assignments -/
def Opt.toS (r : Option (Env' × Store)) : RS := match r with
  | some (env, st) => .nx env st
  | none => .stuck
def fasg (f : FF D) (g : FG) : FS := fun env st => (f env st).toS env fun d st1 => Opt.toS (g d env st1)
theorem ds_asg {tg : Expr} {g : FG} (he : DE X W e fa) (hg : DG X tg g) (hs : swapsWithSole [tg] e pos.line X.env = pure false) (hw : swappedStores [tg] e X.env = pure none) (h1 : PySem.W.isStarred tg = false) : DS X W (.Assign [tg] e pos) (fasg fa g) := by
  refine PS.imp (ps_asg he hg hs hw (by rw [assign_plain h1]; rfl)) fun D σ H h => ?_
  obtain ⟨ρ, env, st, gd, o⟩ := h
  refine ⟨ρ, env, st, gd, (OutS.bind (R := RelD X.K) gd o).mono ?_⟩
  rintro v H1 ⟨ρ1, d, st1, -, e1, s1, r1, o1⟩
  refine ⟨ρ1, env, st1, d, gd.ext e1 s1, r1, ?_⟩
  cases h : g d env st1 with
  | none => rw [h] at o1; exact o1.elim
  | some p => rw [h] at o1; exact o1
/-- a, b = x, y -/
def fpar (i j : Nat) (fs : FF (List D)) : FS := fun env st => (fs env st).toS env fun ds st1 => match ds with
  | [d, e] => .nx ((env.set i (some d)).set j (some e)) st1
  | _ => .stuck
theorem ds_par {i j : Nat} {x y : Str} {px py pt : Pos} {kt k2 pt2} (hc : X.calm = true) (hN : X.N.Nodup) (hi : X.N[i]? = some x) (hj : X.N[j]? = some y) (hij : i ≠ j)
    (hx : X.env.scope.names.lookup x = some .local) (hy : X.env.scope.names.lookup y = some .local) (ha : DA X W [a, b] fs)
    (hw : swappedStores [.Tuple [.Name x px, .Name y py] kt pt] (.Tuple [a, b] k2 pt2) X.env = pure (some [x, y])) :
    DS X W (.Assign [.Tuple [.Name x px, .Name y py] kt pt] (.Tuple [a, b] k2 pt2) pos) (fpar i j fs) := by
  refine PS.imp (ps_par hc hN hi hj hij hx hy ha hw rfl) fun D σ H h => ?_
  obtain ⟨ρ, env, st, gd, o⟩ := h
  refine ⟨ρ, env, st, gd, (OutS.bind (R := RelDs X.K) gd o).mono ?_⟩
  rintro v H1 ⟨ρ1, ds, st1, -, e1, s1, r1, o1⟩
  split at o1
  · rename_i d e
    obtain ⟨v1, v2, rfl, r2, r3⟩ := r1.two
    exact ⟨v1, v2, rfl, o1 ρ1 H1 _ Ext.refl ⟨((gd.env.ext e1).set i r2).set j r3, s1⟩⟩
  · exact o1.elim
def fpar3 (i j l : Nat) (fs : FF (List D)) : FS := fun env st => (fs env st).toS env fun ds st1 => match ds with
  | [d, e, f] => .nx (((env.set i (some d)).set j (some e)).set l (some f)) st1
  | _ => .stuck
theorem ds_par3 {i j l : Nat} {x y z : Str} {px py pz pt : Pos} {kt k2 pt2} (hc : X.calm = true) (hN : X.N.Nodup) (hi : X.N[i]? = some x) (hj : X.N[j]? = some y) (hl : X.N[l]? = some z) (hij : i ≠ j) (hil : i ≠ l) (hjl : j ≠ l)
    (hx : X.env.scope.names.lookup x = some .local) (hy : X.env.scope.names.lookup y = some .local) (hz : X.env.scope.names.lookup z = some .local) (ha : DA X W [a, b, c] fs)
    (hw : swappedStores [.Tuple [.Name x px, .Name y py, .Name z pz] kt pt] (.Tuple [a, b, c] k2 pt2) X.env = pure (some [x, y, z])) :
    DS X W (.Assign [.Tuple [.Name x px, .Name y py, .Name z pz] kt pt] (.Tuple [a, b, c] k2 pt2) pos) (fpar3 i j l fs) := by
  refine PS.imp (ps_par3 hc hN hi hj hl hij hil hjl hx hy hz ha hw rfl) fun D σ H h => ?_
  obtain ⟨ρ, env, st, gd, o⟩ := h
  refine ⟨ρ, env, st, gd, (OutS.bind (R := RelDs X.K) gd o).mono ?_⟩
  rintro v H1 ⟨ρ1, ds, st1, -, e1, s1, r1, o1⟩
  split at o1
  · rename_i d e f
    cases r1 with
    | cons r2 r => cases r with
      | cons r3 r => cases r with
        | cons r4 r =>
          cases r
          exact ⟨_, _, _, rfl, o1 ρ1 H1 _ Ext.refl ⟨(((gd.env.ext e1).set i r2).set j r3).set l r4, s1⟩⟩
  · exact o1.elim
/-- x op= e -/
def ipD (op : Operator) : D → D → Store → Res D := match op with
  | .Add => fun x y st => match x, y with
    | .int i, .int j => .ok (.int (i + j)) st
    | _, _ => .stuck
  | .Sub => fun x y st => match x, y with
    | .int i, .int j => .ok (.int (i - j)) st
    | _, _ => .stuck
  | _ => fun _ _ _ => .stuck
theorem od_ip (op : Operator) : OpD X W (inplaceOp op) (ipD op) := by
  cases op with
  | Add => exact od_int0 (gd := fun i j => .int (i + j)) iop_add fun i j ρ H => .int _
  | Sub => exact od_int0 (gd := fun i j => .int (i - j)) iop_sub fun i j ρ H => .int _
  | _ => exact fun _ _ _ _ _ _ _ _ _ _ _ _ _ _ _ _ _ _ _ o => o.elim
def rIp (K : PySem.W.Frag) (g : D → D → Store → Res D) : TIp := fun x y H Q => ∃ ρ st d e, RelSt K ρ H st ∧ RelD K ρ H d x ∧ RelD K ρ H e y ∧ match g d e st with
  | .ok z st' => ∀ ρ' H' v, Ext ρ H ρ' H' → RelSt K ρ' H' st' → RelD K ρ' H' z v → Q v H'
  | _ => False
def faug (i : Nat) (op : Operator) (f : FF D) : FS := fun env st => match env[i]? with
  | some (some x) => (f env st).toS env fun y st1 => match ipD op x y st1 with
    | .ok z st2 => .nx (env.set i (some z)) st2
    | _ => .stuck
  | _ => .stuck
theorem ds_aug {i : Nat} {x : Str} {op : Operator} {pos' : Pos} (hN : X.N.Nodup) (hi : X.N[i]? = some x) (hx : Loc X.env.scope x) (he : DE X W e fa) (hf : X.fn x = true ∨ X.env.scope.names.lookup x = some .local) :
    DS X W (.AugAssign (.Name x pos') op e pos) (faug i op fa) := by
  have hip : PIp X op (rIp X.K (ipD op)) := by
    intro pins s σ H x y v u Q I rv ru q
    obtain ⟨ρ, st, d, e, rs, r1, r2, q⟩ := q
    split at q
    · rename_i z st' hz
      exact od_ip (W := fun _ _ _ _ => False) op pins s σ H ρ st d e x y v u Q I rs r1 r2 rv ru (by rw [hz]; exact q)
    · exact q.elim
  refine PS.imp (ps_aug hN hi hx he hip hf) fun D σ H h => ?_
  obtain ⟨ρ, env, st, gd, o⟩ := h
  unfold faug at o
  split at o
  · rename_i x hx
    obtain ⟨v, h1, h2⟩ := gd.env.at_ i x hx
    refine ⟨v, h1, ρ, env, st, gd, (OutS.bind (R := RelD X.K) gd o).mono ?_⟩
    rintro u H1 ⟨ρ1, y, st1, -, e1, s1, r1, o1⟩
    refine ⟨ρ1, st1, x, y, s1, h2.ext e1, r1, ?_⟩
    split at o1
    · rename_i z st2 hz
      exact fun ρ2 H2 w e2 s2 r2 => o1 ρ2 H2 _ e2 ⟨(gd.env.ext (e1.trans e2)).set i r2, s2⟩
    · exact o1.elim
  · exact o.elim
/-! match -/
def eqB (d e : D) (st : Store) : Option Bool := match eqD false d e st with
  | .ok (.bl k) _ => some k
  | _ => none
mutual
def fpat : Pattern → D → Store → Option Bool
  | .MatchValue (.Constant (.str x) _ _) _, d, st => eqB d (.str x) st
  | .MatchAs none none _, _, _ => some true
  | .MatchOr ps _, d, st => fpats ps d st
  | _, _, _ => none
def fpats : List Pattern → D → Store → Option Bool
  | [], _, _ => some false
  | p :: ps, d, st => match fpat p d st with
    | some true => some true
    | some false => fpats ps d st
    | none => none
end
section
variable {pins : List (Addr × Obj)} {s : Shared} {σ : L2.St} {H : Hp} {ρ : Pl} {st : Store} {d : D} {v : V} {v' : Value}
theorem filterMap_none : ∀ l : List Str, (l.filterMap fun n => (([] : List (Str × Value)).lookup n).map (n, ·)) = []
  | [] => rfl
  | n :: l => by rw [List.filterMap_cons]; exact filterMap_none l
theorem eqB_walk (hu : X.A.units + 64 < cLine) {x : Str} {j : Nat} {p1 p2 : Pos} {k : Bool} {Q : Option (List (Str × Value)) → Shared → Prop} (I : L2.Inv X pins σ H s) (rs : RelSt X.K ρ H st) (r : RelD X.K ρ H d v) (rv : RelV v v')
    (e : eqB d (.str x) st = some k) (h : ∀ s' H' ρ', L2.Inv X pins σ H' s' → Ext ρ H ρ' H' → RelSt X.K ρ' H' st → Q (if k then some [] else none) s') : wpAny (model X.prog X.w) X.A (matchPattern (.MatchValue (.Constant (.str x) j p1) p2) X.env v') Q X.xe s := by
  refine wpAny_matchPattern_Value (thn ((pe_str (X := X) (x := x) (j := j) (pos := p1)).run pins s σ H (fun w H' => w = .str x ∧ H' = H) I ⟨rfl, rfl⟩) ?_)
  rintro u s1 ⟨w, H1, I1, r1, rfl, rfl⟩
  have o : OutE X.K (fun _ _ _ _ => False) ρ H1 σ (eqD false d (.str x) st) (fun v H' => v = .bl k ∧ ∃ ρ', Ext ρ H1 ρ' H' ∧ RelSt X.K ρ' H' st) := by
    unfold eqB at e
    split at e
    · rename_i k' st' he
      cases e
      rw [he]
      have hst : st' = st := by
        unfold eqD at he
        split at he
        · split at he
          · cases he; rfl
          · cases he
        · cases he
      subst hst
      intro ρ' H' w ex rs' r'
      cases r'
      exact ⟨rfl, ρ', ex, rs'⟩
    · cases e
  refine thn (od_eq hu pins s1 σ H1 ρ st d (.str x) v (.str x) v' u _ I1 rs r (.str x) rv r1 o) ?_
  rintro c s2 ⟨w, H2, I2, r2, rfl, ρ2, ex, rs2⟩
  cases r2
  refine wpAny_truthy_bool ?_
  have := h s2 H2 ρ2 I2 ex rs2
  cases k
  · exact this
  · exact this
mutual
theorem pat_walk (hu : X.A.units + 64 < cLine) : ∀ (p : Pattern) {pins : List (Addr × Obj)} {s : Shared} {σ : L2.St} {H : Hp} {ρ : Pl} {st : Store} {d : D} {v : V} {v' : Value} {k : Bool} {Q : Option (List (Str × Value)) → Shared → Prop}, L2.Inv X pins σ H s → RelSt X.K ρ H st → RelD X.K ρ H d v → RelV v v' →
    fpat p d st = some k → (∀ s' H' ρ', L2.Inv X pins σ H' s' → Ext ρ H ρ' H' → RelSt X.K ρ' H' st → Q (if k then some [] else none) s') → wpAny (model X.prog X.w) X.A (matchPattern p X.env v') Q X.xe s
  | .MatchValue (.Constant (.str x) j p1) p2, _, _, _, _, _, _, _, _, _, _, _, I, rs, r, rv, e, h => eqB_walk hu I rs r rv e h
  | .MatchAs none none p, _, s, _, H, ρ, _, _, _, _, _, Q, I, rs, r, rv, e, h => by
    simp only [fpat, Option.some.injEq] at e
    subst e
    exact wpAny_matchPattern_Capture (h s H ρ I Ext.refl rs)
  | .MatchOr ps p, pins, s, σ, H, ρ, st, d, v, v', k, Q, I, rs, r, rv, e, h => by
    refine wpAny_matchPattern_Or (pats_walk hu ps I rs r rv (by simpa only [fpat] using e) fun s' H' ρ' I' ex rs' => ?_)
    have := h s' H' ρ' I' ex rs'
    cases k with
    | false => exact this
    | true =>
      simp only [if_true] at this ⊢
      rw [filterMap_none]
      exact this
  | .MatchSingleton _ _, _, _, _, _, _, _, _, _, _, _, _, _, _, _, _, e, _ => by simp [fpat] at e
  | .MatchSequence _ _, _, _, _, _, _, _, _, _, _, _, _, _, _, _, _, e, _ => by simp [fpat] at e
  | .MatchMapping _ _ _ _, _, _, _, _, _, _, _, _, _, _, _, _, _, _, _, e, _ => by simp [fpat] at e
  | .MatchClass _ _ _ _ _, _, _, _, _, _, _, _, _, _, _, _, _, _, _, _, e, _ => by simp [fpat] at e
  | .MatchStar _ _, _, _, _, _, _, _, _, _, _, _, _, _, _, _, _, e, _ => by simp [fpat] at e
  | .MatchAs (some _) _ _, _, _, _, _, _, _, _, _, _, _, _, _, _, _, _, e, _ => by simp [fpat] at e
  | .MatchAs none (some _) _, _, _, _, _, _, _, _, _, _, _, _, _, _, _, _, e, _ => by simp [fpat] at e
  | .MatchValue v _, _, _, _, _, _, _, _, _, _, _, _, I, rs, r, rv, e, h => by
    unfold fpat at e
    split at e
    · rename_i hx; cases hx; exact eqB_walk hu I rs r rv e h
    · rename_i hx; cases hx
    · rename_i hx; cases hx
    · cases e
theorem pats_walk (hu : X.A.units + 64 < cLine) : ∀ (ps : List Pattern) {pins : List (Addr × Obj)} {s : Shared} {σ : L2.St} {H : Hp} {ρ : Pl} {st : Store} {d : D} {v : V} {v' : Value} {k : Bool} {Q : Option (List (Str × Value)) → Shared → Prop}, L2.Inv X pins σ H s → RelSt X.K ρ H st → RelD X.K ρ H d v → RelV v v' →
    fpats ps d st = some k → (∀ s' H' ρ', L2.Inv X pins σ H' s' → Ext ρ H ρ' H' → RelSt X.K ρ' H' st → Q (if k then some [] else none) s') → wpAny (model X.prog X.w) X.A (matchFirst ps X.env v') Q X.xe s
  | [], _, s, _, H, ρ, _, _, _, _, _, Q, I, rs, r, rv, e, h => by
    simp only [fpats, Option.some.injEq] at e
    subst e
    exact wpAny_matchFirst_nil (h s H ρ I Ext.refl rs)
  | p :: ps, pins, s, σ, H, ρ, st, d, v, v', k, Q, I, rs, r, rv, e, h => by
    simp only [fpats] at e
    refine wpAny_matchFirst_cons ?_
    split at e
    · rename_i hp
      cases e
      exact pat_walk hu p I rs r rv hp fun s' H' ρ' I' ex rs' => h s' H' ρ' I' ex rs'
    · rename_i hp
      exact pat_walk hu p I rs r rv hp fun s' H' ρ' I' ex rs' => pats_walk hu ps I' rs' (r.ext ex) rv e fun s2 H2 ρ2 I2 ex2 rs2 => h s2 H2 ρ2 I2 (ex.trans ex2) rs2
    · cases e
end
end
/-- the cases of a match -/
def MC (X : Cx) (W : WX) (cs : List MatchCase) (g : D → FS) : Prop := ∀ (pins : List (Addr × Obj)) (s : Shared) (σ : L2.St) (H : Hp) (ρ : Pl) (env : Env') (st : Store) (d : D) (v : V) (v' : Value) (first : Bool) (Dn : Ends), L2.Inv X pins σ H s → Good X.K ρ H env σ st → RelD X.K ρ H d v → RelV v v' →
  OutS X.K W ρ H (g d env st) Dn → wpAny (model X.prog X.w) X.A (matchCases cs X.env v' first) (SP X pins Dn) X.xe s
theorem mc_nil : MC X W [] fun _ => fskip := fun pins s σ H ρ env st d v v' first Dn I g r rv o => wpAny_matchCases_nil ⟨σ, H, I, o ρ H σ Ext.refl g⟩
def fcase (p : Pattern) (f : FS) (g : D → FS) : D → FS := fun d env st => match fpat p d st with
  | some true => f env st
  | some false => g d env st
  | none => .stuck
theorem mc_cons (hu : X.A.units + 64 < cLine) {p : Pattern} {body : List Stmt} {rest : List MatchCase} {f : FS} {g : D → FS} (hb : DSs X W body f) (hr : MC X W rest g) : MC X W (⟨p, none, body⟩ :: rest) (fcase p f g) := by
  intro pins s σ H ρ env st d v v' first Dn I gd r rv o
  unfold fcase at o
  refine wpAny_matchCases_cons ?_
  split at o
  · rename_i hp
    refine pat_walk hu p I gd.st r rv hp fun s' H' ρ' I' ex rs' => ?_
    exact wpAny_assignInOrder_none (hb.run pins s' σ H' Dn I' ⟨ρ', env, st, gd.ext ex rs', OutS.from_ ex o⟩)
  · rename_i hp
    exact pat_walk hu p I gd.st r rv hp fun s' H' ρ' I' ex rs' => hr pins s' σ H' ρ' env st d v v' false Dn I' (gd.ext ex rs') (r.ext ex) rv (OutS.from_ ex o)
  · exact o.elim
def fmatch (f : FF D) (g : D → FS) : FS := fun env st => (f env st).toS env fun d st1 => g d env st1
theorem ds_match {cs : List MatchCase} {g : D → FS} (he : DE X W e fa) (hc : MC X W cs g) : DS X W (.Match e cs pos) (fmatch fa g) := by
  refine ⟨fun pins s σ H Dn I h => ?_⟩
  obtain ⟨ρ, env, st, gd, o⟩ := h
  refine wpAny_Match (thn (he.run pins s σ H _ I ⟨ρ, env, st, gd, OutS.bind (R := RelD X.K) gd o⟩) ?_)
  rintro v' s1 ⟨v, H1, I1, rv, ρ1, d, st1, -, e1, s1', r1, o1⟩
  exact hc pins s1 σ H1 ρ1 env st1 d v v' true Dn I1 (gd.ext e1 s1') r1 rv o1
end
end DL
end
section
/-! DL10: what is walked, for, while, list comprehensions. -/
namespace DL
open PySem PySem.Spec PyProof.Rows L2
/-- what a loop goes through; chk: whether it stands as it stood -/
structure Items where
  xs : List D
  chk : Store → Bool
/-- an iterator of the machine that gives these items -/
structure ItD (K : PySem.W.Frag) (J : It) (P : Pl → Hp → Prop) (it : Items) : Prop where
  stay : ∀ ρ H ρ' H', Stay ρ H ρ' H' → P ρ H → P ρ' H'
  stop : ∀ ρ H st i, RelSt K ρ H st → it.chk st = true → P ρ H → it.xs.length ≤ i → J.stop i H
  go : ∀ ρ H st i, RelSt K ρ H st → it.chk st = true → P ρ H → i < it.xs.length → J.go i H
  yld : ∀ ρ H st i d x H', RelSt K ρ H st → it.chk st = true → P ρ H → it.xs[i]? = some d → J.yld i H x H' → ∃ ρ', Ext ρ H ρ' H' ∧ RelSt K ρ' H' st ∧ RelD K ρ' H' d x
section
variable {K : PySem.W.Frag} {W : WX}
def OutI (K : PySem.W.Frag) (W : WX) (ρ : Pl) (H : Hp) (σ : L2.St) (r : Res Items) (R : It → Hp → Prop) : Prop := match r with
  | .ok it st' => ∀ ρ' H' J P, Ext ρ H ρ' H' → RelSt K ρ' H' st' → P ρ' H' → ItD K J P it → it.chk st' = true → R J H'
  | .exc x st' => ∀ ρ' H' cls dx, Ext ρ H ρ' H' → RelSt K ρ' H' st' → RelX K ρ' H' x cls dx → W cls dx σ H'
  | .stuck => False
def lI (K : PySem.W.Frag) (W : WX) (f : FF Items) : TI := fun σ H R => ∃ ρ env st, Good K ρ H env σ st ∧ OutI K W ρ H σ (f env st) R
end
section
variable {X : Cx} {W : WX} {a b c e : Expr} {fa fb fc : FF D} {pos : Pos} {es : List Expr} {fs : FF (List D)} {s1 s2 : FS} {tg iter : Expr}
abbrev DI (X : Cx) (W : WX) (tg iter : Expr) (f : FF Items) : Prop := PI X tg iter (lI X.K W f)
theorem PI.imp {w w' : TI} (h : PI X tg iter w) (i : ∀ σ H R, w' σ H R → w σ H R) : PI X tg iter w' := ⟨fun pins s σ H R I q => h.run pins s σ H R I (i _ _ _ q)⟩
theorem PI.or {w w' : TI} (h : PI X tg iter w) (h' : PI X tg iter w') : PI X tg iter (fun σ H R => w σ H R ∨ w' σ H R) := ⟨fun pins s σ H R I q => by
  rcases q with q | q
  · exact h.run pins s σ H R I q
  · exact h'.run pins s σ H R I q⟩
/-! == of data, to see that a list stands as it stood -/
mutual
def beqD : D → D → Bool
  | .non, .non => true
  | .bl a, .bl b => a == b
  | .int a, .int b => a == b
  | .str a, .str b => a == b
  | .ty a, .ty b => a == b
  | .adr a, .adr b => a == b
  | .tup a, .tup b => beqDs a b
  | .lst a, .lst b => beqDs a b
  | .scr a, .scr b => beqDs a b
  | .obj a, .obj b => a == b
  | _, _ => false
def beqDs : List D → List D → Bool
  | [], [] => true
  | x :: xs, y :: ys => beqD x y && beqDs xs ys
  | _, _ => false
end
mutual
theorem beqD_eq : ∀ {a b : D}, beqD a b = true → a = b
  | .non, b, h => by cases b <;> first | rfl | cases h
  | .bl a, b, h => by cases b <;> first | (simp [beqD] at h; rw [h]) | cases h
  | .int a, b, h => by cases b <;> first | (simp [beqD] at h; rw [h]) | cases h
  | .str a, b, h => by cases b <;> first | (simp [beqD] at h; rw [h]) | cases h
  | .ty a, b, h => by cases b <;> first | (simp [beqD] at h; rw [h]) | cases h
  | .adr a, b, h => by cases b <;> first | (simp [beqD] at h; rw [h]) | cases h
  | .obj a, b, h => by cases b <;> first | (simp [beqD] at h; rw [h]) | cases h
  | .tup a, b, h => by
    cases b with
    | tup b => rw [beqDs_eq (a := a) (b := b) (by simpa [beqD] using h)]
    | _ => cases h
  | .lst a, b, h => by
    cases b with
    | lst b => rw [beqDs_eq (a := a) (b := b) (by simpa [beqD] using h)]
    | _ => cases h
  | .scr a, b, h => by
    cases b with
    | scr b => rw [beqDs_eq (a := a) (b := b) (by simpa [beqD] using h)]
    | _ => cases h
theorem beqDs_eq : ∀ {a b : List D}, beqDs a b = true → a = b
  | [], [], _ => rfl
  | [], _ :: _, h => by cases h
  | _ :: _, [], h => by cases h
  | x :: xs, y :: ys, h => by
    simp only [beqDs, Bool.and_eq_true] at h
    rw [beqD_eq h.1, beqDs_eq h.2]
end
mutual
theorem beqD_refl : ∀ a : D, beqD a a = true
  | .non => rfl
  | .bl a => by simp [beqD]
  | .int a => by simp [beqD]
  | .str a => by simp [beqD]
  | .ty a => by simp [beqD]
  | .adr a => by simp [beqD]
  | .obj a => by simp [beqD]
  | .tup a => by simpa [beqD] using beqDs_refl a
  | .lst a => by simpa [beqD] using beqDs_refl a
  | .scr a => by simpa [beqD] using beqDs_refl a
theorem beqDs_refl : ∀ a : List D, beqDs a a = true
  | [] => rfl
  | x :: xs => by simp [beqDs, beqD_refl x, beqDs_refl xs]
end
/-- the list stands as it stood -/
def stands (d : D) (xs : List D) (st : Store) : Bool := match d with
  | .obj n => match st[n]? with | some (.lst ys) => beqDs ys xs | _ => false
  | _ => true
theorem stands_now {d : D} {xs : List D} {st : Store} (h : seqL st d = some xs) : stands d xs st = true := by
  cases d <;> try rfl
  rename_i n
  simp only [seqL] at h
  simp only [stands]
  split at h
  · rename_i q
    cases h
    first | (rw [q]; exact beqDs_refl _) | exact beqDs_refl _
  · cases h
theorem seqL_later {d : D} {xs : List D} {st0 st : Store} (h0 : seqL st0 d = some xs) (h : stands d xs st = true) : seqL st d = some xs := by
  cases d <;> first | exact h0 | skip
  rename_i n
  simp only [stands] at h
  simp only [seqL]
  split at h
  · rename_i q
    first | (rw [q]; exact congrArg some (beqDs_eq h)) | exact congrArg some (beqDs_eq h)
  · cases h
/-- a list, a tuple, a text -/
def itemsD (d : D) (st : Store) : Option Items := match d with
  | .tup xs => some ⟨xs, fun _ => true⟩
  | .str x => some ⟨x.cps.toList.map fun c => .str ⟨#[c]⟩, fun _ => true⟩
  | d => (seqL st d).map fun xs => ⟨xs, stands d xs⟩
def fitems (f : FF D) : FF Items := fun env st => (f env st).bind fun d st1 => match itemsD d st1 with
  | some it => .ok it st1
  | none => .stuck
theorem itd_list {K : PySem.W.Frag} {a : Addr} {d : D} {xs : List D} {st0 : Store} (h0 : seqL st0 d = some xs) : ItD K (Itl K a) (fun ρ H => RelD K ρ H d (.ref a)) ⟨xs, stands d xs⟩ where
  stay := fun ρ H ρ' H' s r => r.stay s
  stop := fun ρ H st i rs hc r hi => by
    obtain ⟨p, vs, e, h1, h2⟩ := seqL_ok rs r (seqL_later h0 hc)
    cases e
    exact ⟨vs, h1, by rw [← h2.length]; exact hi⟩
  go := fun ρ H st i rs hc r hi => by
    obtain ⟨p, vs, e, h1, h2⟩ := seqL_ok rs r (seqL_later h0 hc)
    cases e
    obtain ⟨v, h3, _⟩ := h2.get (List.getElem?_eq_getElem hi)
    exact ⟨vs, v, h1, h3⟩
  yld := fun ρ H st i d' x H' rs hc r hd y => by
    obtain ⟨p, vs, e, h1, h2⟩ := seqL_ok rs r (seqL_later h0 hc)
    cases e
    obtain ⟨v, h3, h4⟩ := h2.get hd
    obtain ⟨rfl, y⟩ := y
    have := y vs h1
    rw [h3] at this
    cases this
    exact ⟨ρ, Ext.refl, rs, h4⟩
theorem itd_tup {K : PySem.W.Frag} {a : Addr} {xs : List D} : ItD K (Itt K a) (fun ρ H => RelD K ρ H (.tup xs) (.ref a)) ⟨xs, fun _ => true⟩ where
  stay := fun ρ H ρ' H' s r => r.stay s
  stop := fun ρ H st i rs hc r hi => by
    obtain ⟨p, vs, e, h1, h2⟩ := tup_ok r
    cases e
    exact ⟨vs, h1, by rw [← h2.length]; exact hi⟩
  go := fun ρ H st i rs hc r hi => by
    obtain ⟨p, vs, e, h1, h2⟩ := tup_ok r
    cases e
    obtain ⟨v, h3, _⟩ := h2.get (List.getElem?_eq_getElem hi)
    exact ⟨vs, v, h1, h3⟩
  yld := fun ρ H st i d' x H' rs hc r hd y => by
    obtain ⟨p, vs, e, h1, h2⟩ := tup_ok r
    cases e
    obtain ⟨v, h3, h4⟩ := h2.get hd
    obtain ⟨rfl, y⟩ := y
    have := y vs h1
    rw [h3] at this
    cases this
    exact ⟨ρ, Ext.refl, rs, h4⟩
theorem itd_str {K : PySem.W.Frag} {x : Str} : ItD K (Its x) (fun _ _ => True) ⟨x.cps.toList.map fun c => .str ⟨#[c]⟩, fun _ => true⟩ where
  stay := fun _ _ _ _ _ _ => trivial
  stop := fun ρ H st i rs hc r hi => by simpa [Its] using hi
  go := fun ρ H st i rs hc r hi => by simpa [Its] using hi
  yld := fun ρ H st i d' y H' rs hc r hd q => by
    obtain ⟨rfl, ch, h1, rfl⟩ := q
    rw [List.getElem?_map] at hd
    have : x.cps.toList[i]? = some ch := by simpa using h1
    rw [this] at hd
    cases hd
    exact ⟨ρ, Ext.refl, rs, .str _⟩
theorem itd_range {K : PySem.W.Frag} {lo : Int} {n : Nat} : ItD K (Itr lo n) (fun _ _ => True) ⟨(List.range n).map fun (i : Nat) => .int (lo + i), fun _ => true⟩ where
  stay := fun _ _ _ _ _ _ => trivial
  stop := fun ρ H st i rs hc r hi => by simpa [Itr] using hi
  go := fun ρ H st i rs hc r hi => by simpa [Itr] using hi
  yld := fun ρ H st i d' y H' rs hc r hd q => by
    obtain ⟨rfl, rfl⟩ := q
    rw [List.getElem?_map] at hd
    have hi : i < n := by
      cases h : (List.range n)[i]? with
      | none => rw [h] at hd; cases hd
      | some k => simpa using (List.getElem?_eq_some_iff.mp h).1
    rw [List.getElem?_range hi] at hd
    cases hd
    exact ⟨ρ, Ext.refl, rs, .int _⟩
theorem di_val (h : DE X W iter fa) : DI X W tg iter (fitems fa) := by
  refine PI.imp (PI.or (pi_str h) (PI.or (pi_tup h) (pi_list h))) fun σ H R q => ?_
  obtain ⟨ρ, env, st, g, o⟩ := q
  have key : OutE X.K W ρ H σ (fa env st) (fun v H1 => ∃ ρ1 d st1 it, fa env st = .ok d st1 ∧ RelSt X.K ρ1 H1 st1 ∧ RelD X.K ρ1 H1 d v ∧ itemsD d st1 = some it ∧ ∀ J P, P ρ1 H1 → ItD X.K J P it → it.chk st1 = true → R J H1) := by
    unfold fitems at o
    cases hf : fa env st with
    | exc x st1 => rw [hf] at o; exact o
    | stuck => rw [hf] at o; exact o
    | ok d st1 =>
      rw [hf] at o
      intro ρ1 H1 v e1 s1 r1
      simp only [Res.bind] at o
      cases hi : itemsD d st1 with
      | none => rw [hi] at o; exact o.elim
      | some it =>
        rw [hi] at o
        exact ⟨ρ1, d, st1, it, rfl, s1, r1, hi, fun J P hp hI hc => o ρ1 H1 J P e1 s1 hp hI hc⟩
  cases hf : fa env st with
  | exc x st1 => rw [hf] at key; exact .inl ⟨ρ, env, st, g, by rw [hf]; exact key⟩
  | stuck => rw [hf] at key; exact key.elim
  | ok d st1 =>
    rw [hf] at key
    cases d with
    | str x =>
      refine .inl ⟨ρ, env, st, g, ?_⟩
      rw [hf]
      refine OutR.mono key ?_
      rintro v H1 ⟨ρ1, d1, st2, it, e, s1, r1, hi, q⟩
      cases e; cases r1; cases hi
      exact ⟨x, rfl, q _ _ trivial itd_str rfl⟩
    | tup xs =>
      refine .inr (.inl ⟨ρ, env, st, g, ?_⟩)
      rw [hf]
      refine OutR.mono key ?_
      rintro v H1 ⟨ρ1, d1, st2, it, e, s1, r1, hi, q⟩
      cases e; cases hi
      obtain ⟨p, vs, rfl, h1, h2⟩ := tup_ok r1
      exact ⟨p, rfl, ⟨vs, h1⟩, q _ _ r1 itd_tup rfl⟩
    | _ =>
      refine .inr (.inr ⟨ρ, env, st, g, ?_⟩)
      rw [hf]
      refine OutR.mono key ?_
      rintro v H1 ⟨ρ1, d1, st2, it, e, s1, r1, hi, q⟩
      cases e
      simp only [itemsD, Option.map_eq_some_iff] at hi
      obtain ⟨xs, hx, rfl⟩ := hi
      obtain ⟨p, vs, rfl, h1, h2⟩ := seqL_ok s1 r1 hx
      exact ⟨p, rfl, ⟨vs, h1⟩, q _ _ r1 (itd_list hx) (stands_now hx)⟩
def okR (i : Int) : Bool := decide (-(2 ^ 62) ≤ i) && decide (i < 2 ^ 62)
def frange1 (f : FF D) : FF Items := fun env st => (f env st).bind fun d st1 => match d with
  | .int j => if okR j then .ok ⟨(List.range j.toNat).map fun (i : Nat) => .int (0 + i), fun _ => true⟩ st1 else .stuck
  | _ => .stuck
theorem di_range1 {p : Pos} (hg : Gl X "range") (hm : X.mg "range" = none) (ha : DE X W a fa) (hs : PySem.W.isStarred a = false) : DI X W tg (.Call (.Name "range" p) [a] [] pos) (frange1 fa) := by
  refine PI.imp (pi_range1 hg hm (da_cons ha da_nil hs) (by rw [star_plain hs]; rfl)) fun σ H R q => ?_
  obtain ⟨ρ, env, st, g, o⟩ := q
  refine ⟨ρ, env, st, g, ?_⟩
  unfold frange1 at o
  unfold fcons
  cases hf : fa env st with
  | exc x st1 => rw [hf] at o; exact o
  | stuck => rw [hf] at o; exact o
  | ok d st1 =>
    rw [hf] at o
    cases d with
    | int j =>
      simp only [Res.bind] at o
      split at o
      · rename_i hr
        simp only [okR, Bool.and_eq_true, decide_eq_true_eq] at hr
        intro ρ1 H1 vs e1 s1 r1
        obtain ⟨v, rfl, r2⟩ := r1.one
        cases r2
        exact ⟨j, rfl, hr.1, hr.2, o ρ1 H1 _ _ e1 s1 trivial itd_range rfl⟩
      · exact o.elim
    | _ => exact o.elim
def frange2 (f g : FF D) : FF Items := fun env st => (f env st).bind fun d st1 => (g env st1).bind fun e st2 => match d, e with
  | .int i, .int j => if okR i && okR j then .ok ⟨(List.range (j - i).toNat).map fun (k : Nat) => .int (i + k), fun _ => true⟩ st2 else .stuck
  | _, _ => .stuck
theorem di_range2 {p : Pos} (hg : Gl X "range") (hm : X.mg "range" = none) (ha : DE X W a fa) (hb : DE X W b fb) (hs : PySem.W.isStarred a = false) (hs2 : PySem.W.isStarred b = false) : DI X W tg (.Call (.Name "range" p) [a, b] [] pos) (frange2 fa fb) := by
  refine PI.imp (pi_range2 hg hm (da_cons ha (da_cons hb da_nil hs2) hs) (by rw [star_plain hs, star_plain hs2]; rfl) (by rw [star_plain hs2]; rfl)) fun σ H R q => ?_
  obtain ⟨ρ, env, st, g, o⟩ := q
  refine ⟨ρ, env, st, g, ?_⟩
  unfold frange2 at o
  unfold fcons
  cases hf : fa env st with
  | exc x st1 => rw [hf] at o; exact o
  | stuck => rw [hf] at o; exact o
  | ok d st1 =>
    rw [hf] at o
    simp only [Res.bind] at o ⊢
    cases hh : fb env st1 with
    | exc x st1 => rw [hh] at o; simp only [fcons, hh, Res.bind]; exact o
    | stuck => rw [hh] at o; exact o.elim
    | ok e st2 =>
      rw [hh] at o
      simp only [fcons, hh, Res.bind, fnil]
      cases d with
      | int i =>
        cases e with
        | int j =>
          simp only at o
          split at o
          · rename_i hr
            simp only [okR, Bool.and_eq_true, decide_eq_true_eq] at hr
            intro ρ1 H1 vs e1 s1 r1
            obtain ⟨v, u, rfl, r2, r3⟩ := r1.two
            cases r2; cases r3
            exact ⟨i, j, rfl, ⟨hr.1.1, hr.1.2, hr.2.1, hr.2.2⟩, o ρ1 H1 _ _ e1 s1 trivial itd_range rfl⟩
          · exact o.elim
        | _ => exact o.elim
      | _ => exact o.elim
/-! for -/
def forL (chk : Store → Bool) (g : FG) (body : FS) : List D → FS
  | [] => fun env st => if chk st then .nx env st else .stuck
  | x :: r => fun env st => if chk st then (match g x env st with
    | some (env1, st1) => match body env1 st1 with
      | .nx env2 st2 => forL chk g body r env2 st2
      | .ct env2 st2 => forL chk g body r env2 st2
      | .bk env2 st2 => .nx env2 st2
      | .rt d st2 => .rt d st2
      | .exc x env2 st2 => .exc x env2 st2
      | .stuck => .stuck
    | none => .stuck) else .stuck
def ffor (fi : FF Items) (g : FG) (body : FS) : FS := fun env st => (fi env st).toS env fun it st1 => forL it.chk g body it.xs env st1
def noSet : Expr → Bool
  | .Set _ _ _ => false
  | _ => true
theorem folded_val {x : Value} {env : PySem.Env} (h : noSet iter = true) : foldedSetIterable iter env x = pure x := by
  cases iter <;> first | rfl | cases h
theorem forL_chk {chk : Store → Bool} {g : FG} {body : FS} {l : List D} {env : Env'} {st : Store} {K : PySem.W.Frag} {W : WX} {ρ : Pl} {H : Hp} {Dn : Ends} (o : OutS K W ρ H (forL chk g body l env st) Dn) : chk st = true := by
  cases l with
  | nil =>
    unfold forL at o
    split at o
    · assumption
    · exact o.elim
  | cons x r =>
    unfold forL at o
    split at o
    · assumption
    · exact o.elim
theorem ds_for {fi : FF Items} {g : FG} {body : List Stmt} {fb : FS} (hp : PassesOwn (model X.prog X.w) X.A X.env X.xe) (hc : X.calm = true) (hi : DI X W tg iter fi) (hg : DG X tg g) (hb : DSs X W body fb) (hs : noSet iter = true) :
    DS X W (.For tg iter body [] pos) (ffor fi g fb) := by
  refine PS.imp (ps_for hp hc hi hg hb fun x => folded_val hs) fun Dn σ H q => ?_
  obtain ⟨ρ, env, st, gd, o⟩ := q
  refine ⟨ρ, env, st, gd, ?_⟩
  unfold ffor at o
  cases hf : fi env st with
  | exc x st1 => rw [hf] at o; exact fun ρ' H' cls dx e s q => o ρ' H' σ cls dx e (gd.ext e s) q
  | stuck => rw [hf] at o; exact o.elim
  | ok it st1 =>
    rw [hf] at o
    intro ρ1 H1 J P e1 s1 hP hI hchk
    have o1 : OutS X.K W ρ1 H1 (forL it.chk g fb it.xs env st1) Dn := OutS.from_ e1 o
    refine ⟨fun i m σ H => ∃ ρ env st, m = it.xs.length - i ∧ i ≤ it.xs.length ∧ Good X.K ρ H env σ st ∧ P ρ H ∧ OutS X.K W ρ H (forL it.chk g fb (it.xs.drop i) env st) Dn, ⟨_, ρ1, env, st1, rfl, Nat.zero_le _, gd.ext e1 s1, hP, by simpa using o1⟩, ?_⟩
    rintro i m σ2 H2 ⟨ρ2, env2, st2, rfl, hle, g2, hP2, o2⟩
    have hc2 := forL_chk o2
    by_cases hlt : i < it.xs.length
    · refine .inr ⟨hI.go ρ2 H2 st2 i g2.st hc2 hP2 hlt, _, fun σ' H' q => q, fun x H' y => ?_⟩
      obtain ⟨ρ3, e3, s3, r3⟩ := hI.yld ρ2 H2 st2 i _ x H' g2.st hc2 hP2 (List.getElem?_eq_getElem hlt) y
      rw [List.drop_eq_getElem_cons hlt] at o2
      unfold forL at o2
      rw [if_pos hc2] at o2
      refine ⟨ρ3, env2, st2, it.xs[i], g2.ext e3 s3, r3, ?_⟩
      cases hgx : g it.xs[i] env2 st2 with
      | none => rw [hgx] at o2; exact o2.elim
      | some p =>
        obtain ⟨env3, st3⟩ := p
        rw [hgx] at o2
        simp only at o2
        intro ρ4 H4 σ4 e4 g4
        refine ⟨ρ4, env3, st3, g4, ?_⟩
        have back : ∀ {env5 : Env'} {st5 : Store}, OutS X.K W ρ2 H2 (forL it.chk g fb (it.xs.drop (i + 1)) env5 st5) Dn → ∀ ρ5 H5 σ5, Ext ρ4 H4 ρ5 H5 → Good X.K ρ5 H5 env5 σ5 st5 →
            ∃ m', m' < it.xs.length - i ∧ ∃ ρ env st, m' = it.xs.length - (i + 1) ∧ i + 1 ≤ it.xs.length ∧ Good X.K ρ H5 env σ5 st ∧ P ρ H5 ∧ OutS X.K W ρ H5 (forL it.chk g fb (it.xs.drop (i + 1)) env st) Dn := by
          intro env5 st5 o5 ρ5 H5 σ5 e5 g5
          have et := e3.trans (e4.trans e5)
          exact ⟨_, by omega, ρ5, env5, st5, rfl, hlt, g5, hI.stay _ _ _ _ et.stay hP2, OutS.from_ et o5⟩
        cases hbx : fb env3 st3 with
        | nx env5 st5 => rw [hbx] at o2; exact back o2
        | ct env5 st5 => rw [hbx] at o2; exact back o2
        | bk env5 st5 => rw [hbx] at o2; exact fun ρ5 H5 σ5 e5 g5 => o2 ρ5 H5 σ5 (e3.trans (e4.trans e5)) g5
        | rt d st5 => rw [hbx] at o2; exact fun ρ5 H5 v e5 s5 r5 => o2 ρ5 H5 v (e3.trans (e4.trans e5)) s5 r5
        | exc x env5 st5 => rw [hbx] at o2; exact fun ρ5 H5 σ5 c d e5 g5 q5 => o2 ρ5 H5 σ5 c d (e3.trans (e4.trans e5)) g5 q5
        | stuck => rw [hbx] at o2; exact o2
    · have hi' : i = it.xs.length := by omega
      subst hi'
      refine .inl ⟨hI.stop ρ2 H2 st2 _ g2.st hc2 hP2 (Nat.le_refl _), ?_⟩
      rw [List.drop_length] at o2
      unfold forL at o2
      rw [if_pos hc2] at o2
      exact o2 ρ2 H2 σ2 Ext.refl g2
/-! while: so many turns at most -/
def whileL (t : FF Bool) (body : FS) : Nat → FS
  | 0 => fun _ _ => .stuck
  | n + 1 => fun env st => (t env st).toS env fun k st1 => if k then (match body env st1 with
      | .nx env2 st2 => whileL t body n env2 st2
      | .ct env2 st2 => whileL t body n env2 st2
      | .bk env2 st2 => .nx env2 st2
      | .rt d st2 => .rt d st2
      | .exc x env2 st2 => .exc x env2 st2
      | .stuck => .stuck) else .nx env st1
theorem ds_while {t : FF Bool} {body : List Stmt} {fb : FS} (n : Nat) (hp : PassesOwn (model X.prog X.w) X.A X.env X.xe) (hc : DT X W c t) (hb : DSs X W body fb) : DS X W (.While c body [] pos) (whileL t fb n) := by
  refine PS.imp (ps_while hp hc hb) fun Dn σ H q => ?_
  obtain ⟨ρ, env, st, gd, o⟩ := q
  refine ⟨fun m σ H => ∃ ρ env st, Good X.K ρ H env σ st ∧ OutS X.K W ρ H (whileL t fb m env st) Dn, ⟨n, ρ, env, st, gd, o⟩, ?_⟩
  rintro m σ2 H2 ⟨ρ2, env2, st2, g2, o2⟩
  cases m with
  | zero => exact o2.elim
  | succ m =>
    refine ⟨ρ2, env2, st2, g2, (OutS.bind (R := RB) g2 o2).mono ?_⟩
    rintro k H3 ⟨ρ3, k', st3, -, e3, s3, r3, o3⟩
    cases r3
    cases k with
    | false =>
      rw [if_neg Bool.false_ne_true] at o3 ⊢
      exact o3 ρ3 H3 σ2 Ext.refl (g2.ext e3 s3)
    | true =>
      rw [if_pos rfl] at o3 ⊢
      refine ⟨_, fun σ' H' q => q, ρ3, env2, st3, g2.ext e3 s3, ?_⟩
      have back : ∀ {env5 : Env'} {st5 : Store}, OutS X.K W ρ3 H3 (whileL t fb m env5 st5) Dn → ∀ ρ5 H5 σ5, Ext ρ3 H3 ρ5 H5 → Good X.K ρ5 H5 env5 σ5 st5 →
          ∃ m', m' < m + 1 ∧ ∃ ρ env st, Good X.K ρ H5 env σ5 st ∧ OutS X.K W ρ H5 (whileL t fb m' env st) Dn := fun o5 ρ5 H5 σ5 e5 g5 => ⟨m, by omega, ρ5, _, _, g5, OutS.from_ e5 o5⟩
      cases hbx : fb env2 st3 with
      | nx env5 st5 => rw [hbx] at o3; exact back o3
      | ct env5 st5 => rw [hbx] at o3; exact back o3
      | bk env5 st5 => rw [hbx] at o3; exact o3
      | rt d st5 => rw [hbx] at o3; exact o3
      | exc x env5 st5 => rw [hbx] at o3; exact o3
      | stuck => rw [hbx] at o3; exact o3
end
end DL
end
section
/-! DL11: list comprehensions. -/
namespace DL
open PySem PySem.Spec PyProof.Rows L2
section
variable {K : PySem.W.Frag} {W : WX} {ρ ρ' ρ1 : Pl} {H H' H1 : Hp} {σ : L2.St}
/-- a list that is being made -/
def Pl.hide (ρ : Pl) (p : Addr) : Pl := ⟨ρ.r, p :: ρ.h⟩
/-- the state while a list is being made at p: r0, H0 where it began -/
structure Making (K : PySem.W.Frag) (ρ0 : Pl) (H0 : Hp) (p : Addr) (ρ : Pl) (H : Hp) (st : Store) (acc : List D) : Prop where
  free : H0 p = none
  stay : Stay ρ0 H0 ρ H
  hh : ρ.h = p :: ρ0.h
  hid : ∀ a ∈ ρ0.h, H a = H0 a
  st : RelSt K ρ H st
  at_ : ∃ vs, H p = some (.lst vs) ∧ RelDs K ρ H acc vs
theorem Making.start {st : Store} {p : Addr} (r : RelSt K ρ H st) (h : H p = none) : Making K ρ H p (ρ.hide p) (upd H p (.lst [])) st [] := by
  have sy : Stay ρ H (ρ.hide p) (upd H p (.lst [])) := ⟨fun _ _ e => e, fun a o e n => ⟨by rw [upd_ne (ne_of_none e h)]; exact e, n.1, fun m => by
    rcases List.mem_cons.mp m with m | m
    · exact ne_of_none e h m
    · exact n.2 m⟩⟩
  refine ⟨h, sy, rfl, fun a ha => ?_, ⟨r.len, r.nd, fun n a o e1 e2 => ?_, fun a ha hm => ?_, fun a ha => ?_⟩, ⟨[], upd_same, .nil⟩⟩
  · obtain ⟨u, e⟩ := r.hid a ha
    exact upd_ne (ne_of_none e h)
  · obtain ⟨w, q⟩ := (r.at_ n a o e1 e2).there
    exact (r.at_ n a o e1 e2).stay sy (upd_ne (ne_of_none q h))
  · rcases List.mem_cons.mp hm with m | m
    · subst m
      exact (r.notin h).1 ha
    · exact r.dis a ha m
  · rcases List.mem_cons.mp ha with m | m
    · subst m
      exact ⟨_, upd_same⟩
    · obtain ⟨u, e⟩ := r.hid a m
      exact ⟨u, by rw [upd_ne (ne_of_none e h)]; exact e⟩
theorem Making.ext {ρ0 : Pl} {H0 : Hp} {p : Addr} {st st' : Store} {acc : List D} (m : Making K ρ0 H0 p ρ H st acc) (e : Ext ρ H ρ' H') (s : RelSt K ρ' H' st') : Making K ρ0 H0 p ρ' H' st' acc := by
  obtain ⟨vs, h1, h2⟩ := m.at_
  refine ⟨m.free, m.stay.trans e.stay, e.hh.trans m.hh, fun a ha => (e.hid a (by rw [m.hh]; exact List.mem_cons_of_mem _ ha)).trans (m.hid a ha), s, ⟨vs, (e.hid p (by rw [m.hh]; exact List.mem_cons_self)).trans h1, h2.ext e⟩⟩
theorem Making.push {ρ0 : Pl} {H0 : Hp} {p : Addr} {st : Store} {acc : List D} {d : D} {v : V} {vs : List V} (m : Making K ρ0 H0 p ρ H st acc) (hp : H p = some (.lst vs)) (ra : RelDs K ρ H acc vs) (r : RelD K ρ H d v) :
    Making K ρ0 H0 p ρ (upd H p (.lst (vs ++ [v]))) st (acc ++ [d]) ∧ Stay ρ H ρ (upd H p (.lst (vs ++ [v]))) := by
  have hm : p ∈ ρ.h := by rw [m.hh]; exact List.mem_cons_self
  have sy : Stay ρ H ρ (upd H p (.lst (vs ++ [v]))) := ⟨fun _ _ e => e, fun a o e n => ⟨by rw [upd_ne (a := p) (b := a) fun z => n.2 (by rw [z]; exact hm)]; exact e, n⟩⟩
  have np : ∀ a ∈ ρ.r, a ≠ p := fun a ha z => m.st.dis a ha (by rw [z]; exact hm)
  have n0 : ∀ a ∈ ρ0.h, a ≠ p ∨ H0 a = none := fun a ha => by
    by_cases z : a = p
    · exact .inr (by rw [z]; exact m.free)
    · exact .inl z
  refine ⟨⟨m.free, m.stay.trans sy, m.hh, fun a ha => ?_, ⟨m.st.len, m.st.nd, fun n a o e1 e2 => ?_, m.st.dis, fun a ha => ?_⟩, ⟨_, upd_same, (ra.append (.cons r .nil)).stay sy⟩⟩, sy⟩
  · rcases n0 a ha with z | z
    · rw [upd_ne z]; exact m.hid a ha
    · have h1 := m.hid a ha
      rw [z] at h1
      obtain ⟨u, e⟩ := m.st.hid a (by rw [m.hh]; exact List.mem_cons_of_mem _ ha)
      rw [h1] at e; cases e
  · exact (m.st.at_ n a o e1 e2).stay sy (upd_ne (np a (List.mem_of_getElem? e1)))
  · by_cases z : a = p
    · exact ⟨_, by rw [z]; exact upd_same⟩
    · obtain ⟨u, e⟩ := m.st.hid a ha
      exact ⟨u, by rw [upd_ne z]; exact e⟩
/-- the list is made: it stands still -/
theorem Making.done {ρ0 : Pl} {H0 : Hp} {p : Addr} {st : Store} {acc : List D} (m : Making K ρ0 H0 p ρ H st acc) (dis0 : ∀ a ∈ ρ0.h, ∃ o, H0 a = some o) :
    Ext ρ0 H0 ⟨ρ.r, ρ0.h⟩ H ∧ RelSt K ⟨ρ.r, ρ0.h⟩ H st ∧ RelD K ⟨ρ.r, ρ0.h⟩ H (.lst acc) (.ref p) := by
  have sy : Stay ρ H ⟨ρ.r, ρ0.h⟩ H := ⟨fun _ _ e => e, fun a o e n => ⟨e, n.1, fun z => n.2 (by rw [m.hh]; exact List.mem_cons_of_mem _ z)⟩⟩
  have sy2 := m.stay.trans sy
  obtain ⟨vs, h1, h2⟩ := m.at_
  have hm : p ∈ ρ.h := by rw [m.hh]; exact List.mem_cons_self
  refine ⟨⟨sy2.pre, sy2.keep, rfl, m.hid⟩, ⟨m.st.len, m.st.nd, fun n a o e1 e2 => (m.st.at_ n a o e1 e2).stay sy rfl, fun a ha hb => m.st.dis a ha (by rw [m.hh]; exact List.mem_cons_of_mem _ hb), fun a ha => m.st.hid a (by rw [m.hh]; exact List.mem_cons_of_mem _ ha)⟩, .lst h1 ⟨fun ha => m.st.dis p ha hm, fun ha => ?_⟩ (h2.stay sy)⟩
  obtain ⟨u, e⟩ := dis0 p ha
  rw [m.free] at e; cases e
/-- .. or it gets a number -/
theorem Making.doneO {ρ0 : Pl} {H0 : Hp} {p : Addr} {st : Store} {acc : List D} (m : Making K ρ0 H0 p ρ H st acc) (dis0 : ∀ a ∈ ρ0.h, ∃ o, H0 a = some o) :
    Ext ρ0 H0 ⟨ρ.r ++ [p], ρ0.h⟩ H ∧ RelSt K ⟨ρ.r ++ [p], ρ0.h⟩ H (st ++ [.lst acc]) ∧ RelD K ⟨ρ.r ++ [p], ρ0.h⟩ H (.obj st.length) (.ref p) := by
  obtain ⟨vs, h1, h2⟩ := m.at_
  have hm : p ∈ ρ.h := by rw [m.hh]; exact List.mem_cons_self
  have npr : p ∉ ρ.r := fun ha => m.st.dis p ha hm
  have np0 : p ∉ ρ0.h := fun ha => by
    obtain ⟨u, e⟩ := dis0 p ha
    rw [m.free] at e; cases e
  have sy : Stay ρ H ⟨ρ.r ++ [p], ρ0.h⟩ H := ⟨fun i a e => by
    show (ρ.r ++ [p])[i]? = some a
    rw [List.getElem?_append_left (List.getElem?_eq_some_iff.mp e).1]; exact e, fun a o e n => ⟨e, fun z => by
    rcases List.mem_append.mp z with z | z
    · exact n.1 z
    · have : a = p := by simpa using z
      subst this
      exact n.2 hm, fun z => n.2 (by rw [m.hh]; exact List.mem_cons_of_mem _ z)⟩⟩
  have sy2 := m.stay.trans sy
  refine ⟨⟨sy2.pre, sy2.keep, rfl, m.hid⟩, ⟨by simp [m.st.len], ?_, fun n a o e1 e2 => ?_, fun a ha hb => ?_, fun a ha => m.st.hid a (by rw [m.hh]; exact List.mem_cons_of_mem _ ha)⟩, .obj (by rw [← m.st.len]; simp)⟩
  · show (ρ.r ++ [p]).Nodup
    rw [List.nodup_append]
    refine ⟨m.st.nd, by simp, fun a ha b hb e => ?_⟩
    have : b = p := by simpa using hb
    subst this; subst e
    exact npr ha
  · have e1 : (ρ.r ++ [p])[n]? = some a := e1
    by_cases hn : n < ρ.r.length
    · rw [List.getElem?_append_left hn] at e1
      rw [List.getElem?_append_left (by rw [← m.st.len]; exact hn)] at e2
      exact (m.st.at_ n a o e1 e2).stay sy rfl
    · have hl : n < (ρ.r ++ [p]).length := (List.getElem?_eq_some_iff.mp e1).1
      have hn' : n = ρ.r.length := by simp at hl; omega
      subst hn'
      have e1' : a = p := by simpa using e1.symm
      have e2' : o = .lst acc := by rw [m.st.len] at e2; simpa using e2.symm
      subst e1'; subst e2'
      exact ⟨vs, h1, h2.stay sy⟩
  · rcases List.mem_append.mp ha with z | z
    · exact m.st.dis a z (by rw [m.hh]; exact List.mem_cons_of_mem _ hb)
    · have : a = p := by simpa using z
      subst this
      exact np0 hb
end
/-- what a comprehension's target names -/
inductive CT where
  | one (i : Nat)
  | tup (is : List Nat)
def setAll : List Nat → List D → Env' → Option Env'
  | [], [], env => some env
  | i :: is, d :: ds, env => setAll is ds (env.set i (some d))
  | _, _, _ => none
def bindT : CT → D → Env' → Option Env'
  | .one i, d, env => some (env.set i (some d))
  | .tup is, .tup ds, env => setAll is ds env
  | _, _, _ => none
/-- the names of the block forgotten -/
def wipeE (env : Env') (vs : List Nat) : Env' := vs.foldl (fun e v => e.set v none) env
def gNames : List Nat → TGs
  | [] => gNil
  | i :: is => gCons (gName i) (gNames is)
def gCT (K : PySem.W.Frag) : CT → TG
  | .one i => gName i
  | .tup is => gTup K is.length (gNames is)
def CT.vars : CT → List Nat
  | .one i => [i]
  | .tup is => is
section
variable {K : PySem.W.Frag} {ρ : Pl} {H : Hp} {env : Env'} {σ : L2.St}
theorem wipe_get (σ : L2.St) (j : Nat) : ∀ vs : List Nat, (wipe σ vs)[j]? = if j ∈ vs then σ[j]?.map (fun _ => none) else σ[j]?
  | [] => by simp [wipe]
  | v :: vs => by
    unfold wipe
    by_cases h : v = j
    · subst h
      by_cases hl : v < σ.length
      · rw [List.getElem?_set_self (by rw [wipe_length]; exact hl)]
        simp [List.getElem?_eq_getElem hl]
      · rw [List.getElem?_eq_none (by rw [List.length_set, wipe_length]; omega), List.getElem?_eq_none (by omega)]
        simp
    · rw [List.getElem?_set_ne h, wipe_get σ j vs]
      have : j ∈ v :: vs ↔ j ∈ vs := by simp [Ne.symm h]
      simp only [this]
theorem wipe_ext {σ τ : L2.St} {vs : List Nat} (hl : σ.length = τ.length) (h : ∀ j, j ∉ vs → σ[j]? = τ[j]?) : wipe σ vs = wipe τ vs := by
  refine List.ext_getElem? fun j => ?_
  rw [wipe_get, wipe_get]
  split
  · by_cases hj : j < σ.length
    · rw [List.getElem?_eq_getElem hj, List.getElem?_eq_getElem (by rw [← hl]; exact hj)]
      rfl
    · rw [List.getElem?_eq_none (by omega), List.getElem?_eq_none (by omega)]
  · rename_i hj
    exact h j hj
theorem wipeE_len (vs : List Nat) : ∀ env : Env', (wipeE env vs).length = env.length := by
  induction vs with
  | nil => intro env; rfl
  | cons v vs ih => intro env; show (wipeE (env.set v none) vs).length = _; rw [ih]; simp
theorem wipeE_some {vs : List Nat} : ∀ {env : Env'} {i : Nat} {d : D}, (wipeE env vs)[i]? = some (some d) → env[i]? = some (some d) ∧ i ∉ vs := by
  induction vs with
  | nil => intro env i d h; exact ⟨h, by simp⟩
  | cons v vs ih =>
    intro env i d h
    obtain ⟨h1, h2⟩ := ih (env := env.set v none) h
    by_cases hv : v = i
    · subst hv
      by_cases hl : v < env.length
      · rw [List.getElem?_set_self hl] at h1; cases h1
      · rw [List.getElem?_eq_none (by simpa using hl)] at h1; cases h1
    · rw [List.getElem?_set_ne hv] at h1
      exact ⟨h1, by simp only [List.mem_cons, not_or]; exact ⟨fun e => hv e.symm, h2⟩⟩
theorem RelEnv.wiped (r : RelEnv K ρ H env σ) (vs : List Nat) : RelEnv K ρ H (wipeE env vs) (wipe σ vs) := by
  refine ⟨by rw [wipeE_len, wipe_length]; exact r.len, fun i d h => ?_⟩
  obtain ⟨h1, h2⟩ := wipeE_some h
  obtain ⟨v, h3, h4⟩ := r.at_ i d h1
  refine ⟨v, ?_, h4⟩
  rw [wipe_get, if_neg h2]
  exact h3
/-- the target's names are set, nothing else -/
theorem names_walk : ∀ {is : List Nat} {ds : List D} {vs : List V} {env env' : Env'} {σ : L2.St} {Q : L2.St → Hp → Prop}, RelEnv K ρ H env σ → RelDs K ρ H ds vs → setAll is ds env = some env' →
    (∀ σ', RelEnv K ρ H env' σ' → σ'.length = σ.length → (∀ j, j ∉ is → σ'[j]? = σ[j]?) → Q σ' H) → gNames is vs σ H Q
  | [], [], _, env, env', σ, Q, re, r, e, h => by
    cases r; cases e
    exact ⟨rfl, h σ re rfl fun _ _ => rfl⟩
  | i :: is, d :: ds, _, env, env', σ, Q, re, r, e, h => by
    cases r with
    | @cons _ v _ vs r1 r2 =>
      refine ⟨v, vs, rfl, ?_⟩
      refine names_walk (re.set i r1) r2 e fun σ' r' hl hk => h σ' r' (by rw [hl]; simp) fun j hj => ?_
      simp only [List.mem_cons, not_or] at hj
      rw [hk j hj.2, List.getElem?_set_ne (Ne.symm hj.1)]
  | [], _ :: _, _, _, _, _, _, _, _, e, _ => by cases e
  | _ :: _, [], _, _, _, _, _, _, _, e, _ => by cases e
theorem ct_walk {c : CT} {d : D} {v : V} {env' : Env'} {Q : L2.St → Hp → Prop} (re : RelEnv K ρ H env σ) (r : RelD K ρ H d v) (e : bindT c d env = some env')
    (h : ∀ σ', RelEnv K ρ H env' σ' → σ'.length = σ.length → (∀ j, j ∉ c.vars → σ'[j]? = σ[j]?) → Q σ' H) : gCT K c v σ H Q := by
  cases c with
  | one i =>
    cases e
    refine h _ (re.set i r) (by simp) fun j hj => ?_
    simp only [CT.vars, List.mem_singleton] at hj
    rw [List.getElem?_set_ne (Ne.symm hj)]
  | tup is =>
    cases d with
    | tup ds =>
      obtain ⟨p, vs, rfl, h1, h2⟩ := tup_ok r
      have hl : ∀ {is : List Nat} {ds : List D} {env : Env'}, setAll is ds env = some env' → ds.length = is.length := by
        intro is
        induction is with
        | nil => intro ds env e; cases ds with | nil => rfl | cons _ _ => cases e
        | cons i is ih => intro ds env e; cases ds with | nil => cases e | cons d ds => simp [ih e]
      exact ⟨p, vs, rfl, h1, by rw [← h2.length]; exact hl e, names_walk re h2 e h⟩
    | _ => cases e
end
/-- the turns of a comprehension; nothing may be raised in it -/
def lcL (chk : Store → Bool) (c : CT) (tt : FF Bool) (te : FF D) (env0 : Env') : List D → List D → Store → Option (List D × Store)
  | [], acc, st => if chk st then some (acc, st) else none
  | x :: r, acc, st => if chk st then (match bindT c x env0 with
    | some env1 => match tt env1 st with
      | .ok true st1 => match te env1 st1 with
        | .ok y st2 => if acc.length < 16777216 then lcL chk c tt te env0 r (acc ++ [y]) st2 else none
        | _ => none
      | .ok false st1 => lcL chk c tt te env0 r acc st1
      | _ => none
    | none => none) else none
def flc (m : Bool) (fi : FF Items) (c : CT) (tt : FF Bool) (te : FF D) (vs : List Nat) : FF D := fun env st => (fi env st).bind fun it st1 => match lcL it.chk c tt te (wipeE env vs) it.xs [] st1 with
  | some (acc, st2) => if m then .ok (.obj st2.length) (st2 ++ [.lst acc]) else .ok (.lst acc) st2
  | none => .stuck
def WF : WX := fun _ _ _ _ => False
def ftrue : FF Bool := fun _ st => .ok true st
section
variable {X : Cx} {W : WX} {pos : Pos} {tg iter elt : Expr}
theorem lcL_chk {chk : Store → Bool} {c : CT} {tt : FF Bool} {te : FF D} {env0 : Env'} {l acc : List D} {st : Store} {r : List D × Store} (h : lcL chk c tt te env0 l acc st = some r) : chk st = true := by
  cases l <;> (unfold lcL at h; split at h; assumption; cases h)
/-- the reading of a comprehension, from its turns -/
theorem tLc_of {K : PySem.W.Frag} {fi : FF Items} {c : CT} {tt : FF Bool} {te : FF D} {vs : List Nat} {m : Bool} {σ : L2.St} {H : Hp} {Q : VK} (hv : ∀ i ∈ c.vars, i ∈ vs) (h : lE K W (flc m fi c tt te vs) σ H Q) :
    tLc (lI K W fi) (gCT K c) (lT K WF tt) (lE K WF te) vs σ H Q := by
  obtain ⟨ρ, env, st, g, o⟩ := h
  refine ⟨ρ, env, st, g, ?_⟩
  unfold flc at o
  cases hf : fi env st with
  | exc x st1 => rw [hf] at o; exact o
  | stuck => rw [hf] at o; exact o.elim
  | ok it st1 =>
    rw [hf] at o
    intro ρ1 H1 J P e1 s1 hP hI hchk p np
    have o1 : OutE K W ρ1 H1 σ (match lcL it.chk c tt te (wipeE env vs) it.xs [] st1 with
      | some (acc, st2) => if m then .ok (.obj st2.length) (st2 ++ [.lst acc]) else .ok (.lst acc) st2
      | none => .stuck) Q := OutR.from_ e1 o
    have g1 := g.ext e1 s1
    have mk0 := Making.start (K := K) s1 np
    have reach : ∀ {ρ2 : Pl} {H2 : Hp}, Stay ρ1 H1 ρ2 H2 → RelEnv K ρ2 H2 (wipeE env vs) (wipe σ vs) := fun s => (g1.env.stay s).wiped vs
    refine ⟨fun i n H2 => ∃ ρ2 st2 acc, n = it.xs.length - i ∧ i ≤ it.xs.length ∧ Making K ρ1 H1 p ρ2 H2 st2 acc ∧ P ρ2 H2 ∧ ∃ r, lcL it.chk c tt te (wipeE env vs) (it.xs.drop i) acc st2 = some r ∧ OutE K W ρ1 H1 σ (if m then .ok (.obj r.2.length) (r.2 ++ [.lst r.1]) else .ok (.lst r.1) r.2) Q, ?_, ?_⟩
    · cases hr : lcL it.chk c tt te (wipeE env vs) it.xs [] st1 with
      | none => rw [hr] at o1; exact o1.elim
      | some r => rw [hr] at o1; exact ⟨_, _, st1, [], rfl, Nat.zero_le _, mk0, hI.stay _ _ _ _ mk0.stay hP, r, by simpa using hr, o1⟩
    · rintro i n H2 ⟨ρ2, st2, acc, rfl, hle, mk, hP2, r, hr, o2⟩
      have hc2 := lcL_chk hr
      by_cases hlt : i < it.xs.length
      · refine .inr ⟨hI.go ρ2 H2 st2 i mk.st hc2 hP2 hlt, _, fun H' q => q, fun x H' y => ?_⟩
        obtain ⟨ρ3, e3, s3, r3⟩ := hI.yld ρ2 H2 st2 i _ x H' mk.st hc2 hP2 (List.getElem?_eq_getElem hlt) y
        have mk3 := mk.ext e3 s3
        rw [List.drop_eq_getElem_cons hlt] at hr
        unfold lcL at hr
        rw [if_pos hc2] at hr
        split at hr
        · rename_i env1 hb
          refine ct_walk (reach mk3.stay) r3 hb fun σ' re' hl' hk' => ⟨?_, ρ3, env1, st2, ⟨re', s3⟩, ?_⟩
          · have : wipe σ' vs = wipe (wipe σ vs) vs := wipe_ext hl' fun j hj => hk' j fun z => hj (hv j z)
            rw [this]
            exact wipe_ext (wipe_length _ _) fun j hj => by rw [wipe_get, if_neg hj]
          · split at hr
            · rename_i st3 ht
              rw [ht]
              intro ρ4 H4 k e4 s4 r4
              cases r4
              rw [if_pos rfl]
              have mk4 := mk3.ext e4 s4
              refine ⟨ρ4, env1, st3, ⟨re'.ext e4, s4⟩, ?_⟩
              split at hr
              · rename_i y st4 hy
                rw [hy]
                split at hr
                · rename_i hlen
                  intro ρ5 H5 v e5 s5 r5
                  have mk5 := mk4.ext e5 s5
                  obtain ⟨ws, h1, h2⟩ := mk5.at_
                  obtain ⟨mk6, sy⟩ := mk5.push h1 h2 r5
                  refine ⟨ws, h1, by rw [sizeLine_eq, ← h2.length]; exact hlen, _, (by omega : it.xs.length - (i + 1) < it.xs.length - i), ρ5, st4, _, rfl, hlt, mk6, hI.stay _ _ _ _ ((e3.trans (e4.trans e5)).stay.trans sy) hP2, r, hr, o2⟩
                · cases hr
              · cases hr
            · rename_i st3 ht
              rw [ht]
              intro ρ4 H4 k e4 s4 r4
              cases r4
              rw [if_neg Bool.false_ne_true]
              exact ⟨_, (by omega : it.xs.length - (i + 1) < it.xs.length - i), ρ4, st3, acc, rfl, hlt, mk3.ext e4 s4, hI.stay _ _ _ _ (e3.trans e4).stay hP2, r, hr, o2⟩
            · cases hr
        · cases hr
      · have hi' : i = it.xs.length := by omega
        subst hi'
        refine .inl ⟨hI.stop ρ2 H2 st2 _ mk.st hc2 hP2 (Nat.le_refl _), ?_⟩
        rw [List.drop_length] at hr
        unfold lcL at hr
        rw [if_pos hc2] at hr
        cases hr
        cases m with
        | false =>
          rw [if_neg Bool.false_ne_true] at o2
          obtain ⟨h1, h2, h3⟩ := mk.done s1.hid
          exact o2 _ _ _ h1 h2 h3
        | true =>
          rw [if_pos rfl] at o2
          obtain ⟨h1, h2, h3⟩ := mk.doneO s1.hid
          exact o2 _ _ _ h1 h2 h3
end
end DL
end
section
/-! DL12: comprehensions in place; calls of defs of one's own. -/
namespace DL
open PySem PySem.Spec PyProof.Rows L2
section
variable {X : Cx} {W : WX} {pos : Pos} {tg iter elt a : Expr} {es : List Expr} {fs : FF (List D)}
theorem pg_names {is : List Nat} {xs : List (Str × Pos)} (hN : X.N.Nodup) (hi : is.length = xs.length) (h : ∀ (k i : Nat) (x : Str × Pos), is[k]? = some i → xs[k]? = some x → X.N[i]? = some x.1 ∧ Loc X.env.scope x.1 ∧ (X.fn x.1 = true ∨ X.env.scope.names.lookup x.1 = some .local)) :
    PGs X (xs.map fun x => .Name x.1 x.2) (gNames is) := by
  induction is generalizing xs with
  | nil => cases xs with | nil => exact pgs_nil | cons _ _ => cases hi
  | cons i is ih =>
    cases xs with
    | nil => cases hi
    | cons x xs =>
      obtain ⟨h1, h2, h3⟩ := h 0 i x (by simp) (by simp)
      exact pgs_cons (pg_name hN h1 h2 h3) (ih (by simpa using hi) fun k j y e1 e2 => h (k + 1) j y (by simpa using e1) (by simpa using e2)) rfl
theorem de_lc {fi : FF Items} {c : CT} {tt : FF Bool} {te : FF D} {scope : Scope} {own : List (Str × Nat)} {ifs : List Expr} (m : Bool) (hc : X.calm = true) (hN : X.N.Nodup) (hi : DI X W tg iter fi) (ok : BlkOk X.N X.env.scope scope own)
    (hg : ∀ (s : Shared) (H : Hp) (C : Addr) (cl : List (Str × Addr)) (fp : List Addr), PG (X.blk s H scope (compEnvC scope cl C X.env) fp) tg (gCT X.K c))
    (ht : ∀ (s : Shared) (H : Hp) (C : Addr) (cl : List (Str × Addr)) (fp : List Addr), PTs (X.blk s H scope (compEnvC scope cl C X.env) fp) ifs (lT X.K WF tt))
    (he : ∀ (s : Shared) (H : Hp) (C : Addr) (cl : List (Str × Addr)) (fp : List Addr), DE (X.blk s H scope (compEnvC scope cl C X.env) fp) WF elt te) (hs : noSet iter = true) (hv : ∀ i ∈ c.vars, i ∈ own.map (·.2)) :
    DE X W (.ListComp elt [⟨tg, iter, ifs, 0⟩] scope pos) (flc m fi c tt te (own.map (·.2))) :=
  PE.imp (pe_lc hc hN hi ok hg ht he fun x => folded_val hs) fun σ H Q h => tLc_of hv h
theorem ds_setLc {fi : FF Items} {c : CT} {tt : FF Bool} {te : FF D} {scope : Scope} {own : List (Str × Nat)} {ifs : List Expr} {i : Nat} {y : Str} {py spos : Pos} (m : Bool) (hc : X.calm = true) (hN : X.N.Nodup) (hy : X.N[i]? = some y) (hyl : X.env.scope.names.lookup y = some .local)
    (hsw : swapsWith (.ListComp elt [⟨tg, iter, ifs, 0⟩] scope pos) (some (.Name y py)) spos.line X.env = pure true) (hi : DI X W tg iter fi) (ok : BlkOk X.N X.env.scope scope own)
    (hg : ∀ (s : Shared) (H : Hp) (C : Addr) (cl : List (Str × Addr)) (fp : List Addr), PG (X.blk s H scope (compEnvC scope cl C X.env) fp) tg (gCT X.K c))
    (ht : ∀ (s : Shared) (H : Hp) (C : Addr) (cl : List (Str × Addr)) (fp : List Addr), PTs (X.blk s H scope (compEnvC scope cl C X.env) fp) ifs (lT X.K WF tt))
    (he : ∀ (s : Shared) (H : Hp) (C : Addr) (cl : List (Str × Addr)) (fp : List Addr), DE (X.blk s H scope (compEnvC scope cl C X.env) fp) WF elt te) (hs : noSet iter = true) (hv : ∀ i ∈ c.vars, i ∈ own.map (·.2)) :
    DS X W (.Assign [.Name y py] (.ListComp elt [⟨tg, iter, ifs, 0⟩] scope pos) spos) (fasg (flc m fi c tt te (own.map (·.2))) (gname i)) := by
  refine PS.imp (ps_setLc (te := lE X.K WF te) hc hN hy hyl hsw hi ok hg ht he fun x => folded_val hs) fun Dn σ H h => ?_
  obtain ⟨ρ, env, st, gd, o⟩ := h
  refine tLc_of (m := m) hv ⟨ρ, env, st, gd, (OutS.bind (R := RelD X.K) gd o).mono ?_⟩
  rintro v H1 ⟨ρ1, d, st1, -, e1, s1, r1, o1⟩
  exact o1 ρ1 H1 _ Ext.refl ⟨(gd.env.ext e1).set i r1, s1⟩
theorem dts_nil : PTs X [] (lT X.K W ftrue) := ⟨fun pins s σ H Q I h => by
  obtain ⟨ρ, env, st, g, o⟩ := h
  exact pts_nil.run pins s σ H Q I (o.now g.st rfl)⟩
/-! calls of defs -/
/-- a def's promise where no repr runs around the call -/
structure FnG (P : Program) (w : World) (K : PySem.W.Frag) (mg : Str → Option Value) (base : Heap) (CX : CXT) (k : Nat) (f : Addr) (fd : FuncData) (ps : List Str) (sp : Sp) : Prop where
  len : ∀ vs H Q E, sp vs H Q E → vs.length = ps.length
  run : ∀ (A : Around) (outer : List PySem.Env) (s : Shared) (H : Hp) (args : Args) (us : List Value) (vs : List V) (Q : VK) (E : XK), Room k A → A.guards = some [] → Env0 P w K mg base A outer s H → BindsTo s fd args (ps.zip us) → Vals vs us → sp vs H Q E →
    codeAny (model P w) A (.call (.ref f) args) (CR CX outer P w H s Q E) s
theorem FnG.mono {P : Program} {w : World} {K : PySem.W.Frag} {mg : Str → Option Value} {base : Heap} {CX : CXT} {j k : Nat} {f : Addr} {fd : FuncData} {ps : List Str} {sp : Sp} (F : FnG P w K mg base CX j f fd ps sp) (h : j ≤ k) : FnG P w K mg base CX k f fd ps sp :=
  ⟨F.len, fun A outer s H args us vs Q E hr => F.run A outer s H args us vs Q E (hr.mono h)⟩
/-- a def by its body -/
theorem fnG_of {CX : CXT} {P : Program} {w : World} {K : PySem.W.Frag} {mg : Str → Option Value} {base : Heap} {k : Nat} {x qual : Str} {st : Stmt} {f : Addr} {fd : FuncData} {N ps : List Str} {sp : Sp} (F : Fun K x qual st f fd) (S : FnScope N ps (defScope st))
    (len : ∀ vs H Q E, sp vs H Q E → vs.length = ps.length)
    (body : ∀ (cdv : Value) (A : Around) (outer : List PySem.Env) (s : Shared) (H : Hp) (vs : List V) (Q : VK) (E : XK), Room k (A.deeper (envOfC qual (defScope st) s.heap.objs.size f cdv)) → A.guards = some [] → sp vs H Q E →
      ∃ t, PSs (cxOf CX P w K mg base N qual (defScope st) f cdv A outer s H E) (defBody st) t ∧ t { nx := fun _ H' => Q .non H', rt := Q } (start N vs) H) : FnG P w K mg base CX (k + 1) f fd ps sp := by
  obtain ⟨oc, od, kV, doc, pm, an, cdv, ct, osl, rfl, lk, hcd⟩ := F.ex
  refine ⟨len, fun A outer s H args us vs Q E room gd e0 bind rel want => ?_⟩
  have nvs := len _ _ _ _ want
  have kin : K.In s.heap := e0.mod.kin.keeps fun b o q => (e0.bs b o q).1
  have nolim : s.heap.NoLimit := e0.mod.nolimit.keeps fun b o q => (e0.bs b o q).1
  have kinds : ∀ y ∈ ps.zip us, (defScope st).names.lookup y.1 = some .local ∨ ((defScope st).names.lookup y.1 = some .cell ∧ ((cellsFrom (s.heap.objs.size + 1) (defScope st).names []).lookup y.1).isSome = true) := by
    rintro ⟨n, v⟩ hy
    refine (S.par n (List.of_mem_zip hy).1).imp id fun q => ⟨q, ?_⟩
    exact PySem.W.cellsFrom_some _ _ _ (.inl q)
  apply codeAny_call_function room.depth (kin _ _ lk) rfl S.co S.gen rfl (PySem.W.codeRec_of kin hcd)
  apply bind
  apply wpAny_newFunctionEnv_cells S.kind kinds
  rintro _ rfl s1 made
  refine ⟨nolim.keeps made.toInCall.keep, codeAny_func ?_⟩
  obtain ⟨t, walk, reads⟩ := body cdv A outer s H vs Q E (room.deeper _) gd want
  have began := inv_start (CX := CX) (E := E) S room.hd e0 nvs rel made
  have ran := walk.run [] s1 (start N vs) H _ began reads
  refine wpAny_mono ran ?_ fun _ _ q => q
  intro fl s' q
  cases fl with
  | next =>
    obtain ⟨_, H', J, q⟩ := q
    exact ⟨.non, H', J.os, J.bare, J.base, J.hok, rfl, q⟩
  | ret u =>
    obtain ⟨v, _, H', J, rv, q⟩ := q
    exact ⟨v, H', J.os, J.bare, J.base, J.hok, rv, q⟩
  | brk => exact q.elim fun _ q => q.elim fun _ q => q.2.elim
  | cont => exact q.elim fun _ q => q.elim fun _ q => q.2.elim
/-- the promise of a def that reckons g and raises nothing -/
def spO (K : PySem.W.Frag) (n : Nat) (g : List D → Store → Option (D × Store)) : Sp := fun vs H Q _ => vs.length = n ∧ rD K g vs H Q
/-- f(..) with values: where f stands in the module -/
theorem callG {k : Nat} {f : Addr} {fd : FuncData} {ps : List Str} {g : List D → Store → Option (D × Store)} (F : FnG X.prog X.w X.K X.mg X.base CX0 k f fd ps (spO X.K ps.length g)) (hr : Room k X.A) (hg : X.A.guards = some [])
    {pins : List (Addr × Obj)} {s : Shared} {σ : L2.St} {H : Hp} {vs : List V} {us : List Value} {args : Args} {Q : VK} (I : L2.Inv X pins σ H s) (bind : BindsTo s fd args (ps.zip us)) (rel : Vals vs us) (h : vs.length = ps.length ∧ rD X.K g vs H Q) :
    wpAny (model X.prog X.w) X.A (call (.ref f) args.pos args.kw) (EP X pins σ Q) X.xe s := by
  refine wpAny_call (codeAny_mono (F.run X.A X.stack s H args us vs Q (fun _ _ _ => False) hr hg I.env0 bind rel h) fun r s' q => ?_)
  cases r with
  | error e => exact False.elim q
  | ok fl =>
    cases fl with
    | ret u => exact I.after q
    | next => exact False.elim q
    | brk => exact False.elim q
    | cont => exact False.elim q
/-- a call with positional arguments alone -/
theorem cd_fn {k : Nat} {f : Addr} {fd : FuncData} {ps : List Str} {g : List D → Store → Option (D × Store)} (F : FnG X.prog X.w X.K X.mg X.base CX0 k f fd ps (spO X.K ps.length g)) (hr : Room k X.A) (hg : X.A.guards = some []) (hb : Binds X.K fd ps []) :
    CallD X (.ref f) (fun ds st => if ds.length = ps.length then g ds st else none) := by
  intro pins s σ H xs us Q I rx q
  obtain ⟨ρ, st, ds, rs, rd, q⟩ := q
  split at q
  · rename_i d st' e
    change (if ds.length = ps.length then g ds st else none) = some (d, st') at e
    split at e
    · rename_i hl
      have hl2 : xs.length = ps.length := by rw [← rd.length]; exact hl
      exact callG F hr hg I (args := ⟨us, []⟩) (us := us) (by have := hb s us I.kIn (by rw [List.append_nil, ← rx.length]; exact hl2); rwa [List.append_nil] at this) rx ⟨hl2, ρ, st, ds, rs, rd, by rw [e]; exact q⟩
    · cases e
  · exact q.elim
theorem de_call {x : Str} {p : Pos} {f : Addr} {g : List D → Store → Option (D × Store)} (hc : CallD X (.ref f) g) (hg : Gl X x) (hm : X.mg x = some (.ref f)) (hk : PySem.W.keepIn X.K (.ref f) = true) (ha : DA X W (a :: es) fs) (hdb : (x == ("__debug__" : Str)) = false)
    (hst : starless (a :: es) = true) : DE X W (.Call (.Name x p) (a :: es) [] pos) (fcallO g fs) := by
  unfold starless at hst
  rw [List.all_cons, Bool.and_eq_true, Bool.not_eq_true'] at hst
  refine ⟨fun pins s σ H Q I h => wpAny_Call_Name_kw (ld_glob I hg hm ?_ hdb)⟩
  refine PySem.W.callWith_K (h₀ := X.base) I.ok.mod.kin hk (thn (ha.run pos pins s σ H _ I (tCB_of h)) ?_) (star_plain hst.1) (plain_star hst.2)
  rintro us s1 ⟨vs, H1, I1, r, q⟩
  exact ⟨I1.kIn, hc pins s1 σ H1 vs us Q I1 r q⟩
theorem de_call0 {x : Str} {p : Pos} {f : Addr} {g : List D → Store → Option (D × Store)} (hc : CallD X (.ref f) g) (hg : Gl X x) (hm : X.mg x = some (.ref f)) (hk : PySem.W.keepIn X.K (.ref f) = true) (hdb : (x == ("__debug__" : Str)) = false) :
    DE X W (.Call (.Name x p) [] [] pos) (fcallO g fnil) := by
  refine ⟨fun pins s σ H Q I h => wpAny_Call_Name_kw (ld_glob I hg hm ?_ hdb)⟩
  obtain ⟨ρ, env, st, gd, o⟩ := h
  refine PySem.W.callWith_K0 I.kIn hk (hc pins s σ H [] [] Q I .nil ⟨ρ, st, [], gd.st, .nil, ?_⟩)
  change OutE X.K W ρ H σ (ofO (g [] st)) Q at o
  cases e : g [] st with
  | none => rw [e] at o; exact o.elim
  | some p => rw [e] at o; exact o
end
end DL
end
section
/-! DLB: slices with a step, dict(pairs), list(range(..)), text * int. -/
namespace DL
open PySem PySem.Spec PyProof.Rows L2
/-- the places perm of a list -/
def pick {α : Type} (perm : List Nat) (l : List α) : List α := perm.filterMap (l[·]?)
theorem Vals.pick {vs : List V} {us : List Value} (h : Vals vs us) : ∀ perm : List Nat, Vals (pick perm vs) (pick perm us)
  | [] => .nil
  | i :: perm => by
    have ih := Vals.pick h perm
    unfold DL.pick at ih ⊢
    rw [List.filterMap_cons, List.filterMap_cons]
    by_cases hi : i < vs.length
    · have hl := h.length
      rw [List.getElem?_eq_getElem hi, List.getElem?_eq_getElem (by omega)]
      refine .cons ?_ ih
      have : ∀ {vs : List V} {us : List Value}, Vals vs us → ∀ (i : Nat) (h1 : i < vs.length) (h2 : i < us.length), RelV vs[i] us[i] := by
        intro vs us h
        induction h with
        | nil => intro i h1; simp at h1
        | cons r _ ih =>
          intro i h1 h2
          cases i with
          | zero => exact r
          | succ i => exact ih i (by simpa using h1) (by simpa using h2)
      exact this h i hi (by omega)
    · have hl := h.length
      rw [List.getElem?_eq_none (by omega), List.getElem?_eq_none (by omega)]
      exact ih
theorem RelDs.pick {K : PySem.W.Frag} {ρ : Pl} {H : Hp} {ds : List D} {vs : List V} (h : RelDs K ρ H ds vs) : ∀ perm : List Nat, RelDs K ρ H (pick perm ds) (pick perm vs)
  | [] => .nil
  | i :: perm => by
    have ih := RelDs.pick h perm
    unfold DL.pick at ih ⊢
    rw [List.filterMap_cons, List.filterMap_cons]
    cases hd : ds[i]? with
    | some d =>
      obtain ⟨v, h1, h2⟩ := h.get hd
      rw [h1]
      exact .cons h2 ih
    | none =>
      have := h.length
      rw [List.getElem?_eq_none (by rw [List.getElem?_eq_none_iff] at hd; omega)]
      exact ih

/-! text * int -/
section
variable {X : Cx} {W : WX}
theorem mulOk_small {x : Str} {n : Int} (h0 : -(2 ^ 62) ≤ n) (h1 : n ≤ 4096) (h2 : x.length ≤ 4096) : PySem.MulOk x n := by
  refine ⟨?_, fun h3 _ => ?_, fun h3 _ => ?_⟩
  · simp only [Bool.or_eq_false_iff, decide_eq_false_iff_not]
    omega
  · have a1 : (1 : Int) ≤ n := by omega
    have a2 : (2 ^ 63 - 1 : Int) / n ≥ 4096 := by
      refine Int.le_ediv_of_mul_le (by omega) ?_
      have : (4096 : Int) * n ≤ 4096 * 4096 := Int.mul_le_mul_of_nonneg_left h1 (by decide)
      omega
    omega
  · unfold Builtin.Str.tooLong
    have : x.length * n.toNat ≤ 4096 * 4096 := Nat.mul_le_mul h2 (by omega)
    rw [decide_eq_false_iff_not, sizeLine_eq]
    omega
def mulT : D → D → Store → Res D := fun x y st => match x, y with
  | .str a, .int n => if -(2 ^ 62) ≤ n ∧ n ≤ 4096 ∧ a.length ≤ 4096 then .ok (.str (PySem.Txt.mul a n)) st else .stuck
  | _, _ => .stuck
theorem od_mulT : OpD X W (binaryOp .Mult) mulT := by
  intro pins s σ H ρ st x y v u v' u' Q I rs rx ry rv ru o
  unfold mulT at o
  split at o
  · split at o
    · rename_i h
      cases rx; cases ry
      obtain ⟨t, rfl⟩ := (show ∃ t, v' = Value.str _ t from rv)
      obtain ⟨t', rfl⟩ := (show ∃ t, u' = Value.int _ t from ru)
      exact PySem.SB.mul (mulOk_small h.1 h.2.1 h.2.2) fun t2 k => ⟨.str _, H, I.tok _, ⟨_, rfl⟩, o.now rs (.str _)⟩
    · exact o.elim
  · exact o.elim
/-! a bool and an int -/
abbrev bI (p : Bool) : Int := if p = true then 1 else 0
theorem gives_add_bi (p : Bool) (j : Int) (u : Tok) : Gives (Builtin.«int.__add__» ⟨[.bool p, .int j u], []⟩) (.int (bI p + j)) := Gives.of_wp fun M A E s Q h => by
  obtain ⟨hp, g, d, tk, os⟩ := s
  wp_walk
  exact ⟨_, rfl, h⟩
theorem gives_sub_bi (p : Bool) (j : Int) (u : Tok) : Gives (Builtin.«int.__sub__» ⟨[.bool p, .int j u], []⟩) (.int (bI p - j)) := Gives.of_wp fun M A E s Q h => by
  obtain ⟨hp, g, d, tk, os⟩ := s
  wp_walk
  exact ⟨_, rfl, h⟩
theorem gives_sub_ib (i : Int) (p : Bool) (u : Tok) : Gives (Builtin.«int.__sub__» ⟨[.int i u, .bool p], []⟩) (.int (i - bI p)) := Gives.of_wp fun M A E s Q h => by
  obtain ⟨hp, g, d, tk, os⟩ := s
  wp_walk
  exact ⟨_, rfl, h⟩
theorem sub_int_bool : isSubtype (.type "int") (.type "bool") = pure false := by kernel_rfl
theorem refl_sub : reflectedDiffers (.type "int") (.type "bool") "sub" = pure false := by
  unfold reflectedDiffers
  show (typeLookup (.type "bool") (dunderR "sub") >>= fun rb => typeLookup (.type "int") (dunderR "sub") >>= fun ra => pure (rb.isSome && rb != ra)) = pure false
  rw [typeLookup_type, typeLookup_type, builtinLookup_eq_fast]
  kernel_rfl
def addBI : D → D → Store → Res D := fun x y st => match x, y with
  | .bl p, .int j => .ok (.int (bI p + j)) st
  | _, _ => .stuck
def subBI : D → D → Store → Res D := fun x y st => match x, y with
  | .bl p, .int j => .ok (.int (bI p - j)) st
  | .int i, .bl p => .ok (.int (i - bI p)) st
  | _, _ => .stuck
theorem od_addBI : OpD X W (binaryOp .Add) addBI := by
  intro pins s σ H ρ st x y v u v' u' Q I rs rx ry rv ru o
  unfold addBI at o
  split at o
  · rename_i p j
    cases rx; cases ry
    obtain rfl : v' = Value.bool p := rv
    obtain ⟨t, rfl⟩ := (show ∃ t, u' = Value.int j t from ru)
    exact binaryOp_left_gives (op := .Add) (T := "bool") (U := "int") (by decide) (typeIs_bool' s p) (fun s' => typeIs_int s' j t) PySem.F.fills_bool_add PySem.F.fills_int_add sub_int_bool PySem.F.slot_bool_add PySem.F.slot_int_radd PySem.F.entry_int_add
      (PySem.F.args_int_add_2 _ _) (gives_add_bi p j t) trivial ⟨.int _, H, I.tok _, ⟨_, rfl⟩, o.now rs (.int _)⟩
  · exact o.elim
theorem od_subBI : OpD X W (binaryOp .Sub) subBI := by
  intro pins s σ H ρ st x y v u v' u' Q I rs rx ry rv ru o
  unfold subBI at o
  split at o
  · rename_i p j
    cases rx; cases ry
    obtain rfl : v' = Value.bool p := rv
    obtain ⟨t, rfl⟩ := (show ∃ t, u' = Value.int j t from ru)
    exact binaryOp_left_gives (op := .Sub) (T := "bool") (U := "int") (by decide) (typeIs_bool' s p) (fun s' => typeIs_int s' j t) PySem.F.fills_bool_sub PySem.F.fills_int_sub sub_int_bool PySem.F.slot_bool_sub PySem.F.slot_int_rsub PySem.F.entry_int_sub
      (PySem.F.args_int_sub_2 _ _) (gives_sub_bi p j t) trivial ⟨.int _, H, I.tok _, ⟨_, rfl⟩, o.now rs (.int _)⟩
  · rename_i i p
    cases rx; cases ry
    obtain ⟨t, rfl⟩ := (show ∃ t, v' = Value.int i t from rv)
    obtain rfl : u' = Value.bool p := ru
    exact binaryOp_sub_gives (op := .Sub) (T := "int") (U := "bool") (by decide) (typeIs_int s i t) rfl PySem.F.fills_int_sub PySem.F.fills_bool_sub isSubtype_bool_int refl_sub PySem.F.slot_int_sub PySem.F.entry_int_sub (PySem.F.args_int_sub_2 _ _)
      (gives_sub_ib i p t) trivial ⟨.int _, H, I.tok _, ⟨_, rfl⟩, o.now rs (.int _)⟩
  · exact o.elim
/-- str(x) of an int, a bool, a text -/
def strD2 (ds : List D) (st : Store) : Option (D × Store) := match ds with
  | [.bl b] => some (.str (if b then "True" else "False" : String), st)
  | [.str x] => some (.str x, st)
  | _ => strD ds st
theorem cd_strB : CallD X (.type "str") (fun ds st => match ds with | [.bl b] => some (.str (if b then "True" else "False" : String), st) | _ => none) := by
  intro pins s σ H vs us Q I rx q
  obtain ⟨ρ, st, ds, rs, rd, q⟩ := q
  split at q
  · rename_i d st' e
    dsimp only at e
    split at e
    · rename_i b
      cases e
      obtain ⟨v, rfl, r1⟩ := rd.one
      cases r1
      obtain ⟨u, rfl, ru⟩ := vals1 rx
      obtain rfl : u = Value.bool b := ru
      refine PySem.P.str_of_bool ⟨.str _, H, I.tok _, ⟨_, rfl⟩, q ρ H _ Ext.refl rs ?_⟩
      cases b <;> exact .str _
    · cases e
  · exact q.elim
theorem cd_strS : CallD X (.type "str") (fun ds st => match ds with | [.str x] => some (.str x, st) | _ => none) := CallD.by SkE.call_str_str fun ρ H st ds vs Q d st' rs rd e q => by
  split at e
  · rename_i x
    cases e
    obtain ⟨v, rfl, r1⟩ := rd.one
    cases r1
    exact ⟨x, rfl, q ρ H _ Ext.refl rs (.str _)⟩
  · cases e
theorem cd_str2 : CallD X (.type "str") strD2 := by
  refine CallD.or cd_strB (CallD.or cd_strS cd_str (k := fun ds st => match ds with | [.bl _] => none | _ => strD2 ds st) fun ds st => ?_) fun ds st => ?_
  · split
    · exact .inl rfl
    · rename_i h
      unfold strD2
      split
      · exact absurd rfl (h _)
      · exact .inr (.inl rfl)
      · exact .inr (.inr rfl)
  · unfold strD2
    split
    · exact .inr (.inl rfl)
    · exact .inr (.inr rfl)
    · rename_i h1 h2
      right; right
      split
      · exact absurd rfl (h1 _)
      · rfl
/-- the operators, texts * ints and bools with ints among them -/
def binD2 (op : Operator) (x y : D) (st : Store) : Res D := match op, x, y with
  | .Mult, .str _, _ => mulT x y st
  | .Add, .bl _, _ => addBI x y st
  | .Sub, .bl _, _ => subBI x y st
  | .Sub, .int _, .bl _ => subBI x y st
  | _, _, _ => binD op x y st
theorem od_bin2 (op : Operator) : OpD X W (binaryOp op) (binD2 op) := by
  cases op <;> first
    | exact od_bin _
    | (refine OpD.or (g := mulT) (g' := binD .Mult) od_mulT (od_bin .Mult) fun x y st => ?_
       cases x <;> first | exact .inr (.inl rfl) | exact .inr (.inr rfl))
    | (refine OpD.or (g := addBI) (g' := binD .Add) od_addBI (od_bin .Add) fun x y st => ?_
       cases x <;> first | exact .inr (.inl rfl) | exact .inr (.inr rfl))
    | (refine OpD.or (g := subBI) (g' := binD .Sub) od_subBI (od_bin .Sub) fun x y st => ?_
       cases x <;> cases y <;> first | exact .inr (.inl rfl) | exact .inr (.inr rfl))
/-! slices with a step -/
abbrev stepOf (n : Nat) (lo hi : Option Int) (st : Int) : List Nat := sliceRange (sliceBounds lo hi (some st) n).1 (sliceBounds lo hi (some st) n).2.1 (sliceBounds lo hi (some st) n).2.2
def stepD (m : Bool) (x : D) (lo hi : Option Int) (k : Option Int) (st : Store) : Res D := match k with
  | some c => if c = 0 then .stuck else match x with
    | .tup xs => if c = -1 ∧ lo = none ∧ hi = none ∧ xs.length ≤ 16777216 then .ok (.tup xs.reverse) st else .stuck
    | x => match seqL st x with
      | some xs => if m then .ok (.obj st.length) (st ++ [.lst (pick (stepOf xs.length lo hi c) xs)]) else .ok (.lst (pick (stepOf xs.length lo hi c) xs)) st
      | none => .stuck
  | none => .stuck
def fstep (m : Bool) (f : FF D) (lo hi k : FF (Option Int)) : FF D := fun env st => (f env st).bind fun x st1 => (lo env st1).bind fun l st2 => (hi env st2).bind fun h st3 => (k env st3).bind fun c st4 => stepD m x l h c st4
theorem slice_back {sl : Addr} {vl vu vs : Value} {n : Nat} {prog : Program} {w : World} {A : Around} {E : Value → Shared → Prop} {s : Shared} {Q : Int × Int × Nat → Shared → Prop} (hs : s.heap.IsSliceOf sl vl vu vs) (pl : IsPart vl none) (pu : IsPart vu none) (ps : IsPart vs (some (-1)))
    (h : Q ((n : Int) - 1, -1, n) s) : wpAny (model prog w) A (Builtin.Slice.sliceApplied (.ref sl) (pure (n : Int))) Q E s := by
  obtain ⟨os, hos, hcs, hds⟩ := id hs
  cases pl
  cases pu
  unfold Builtin.Slice.sliceApplied Builtin.Slice.sliceFields
  refine wpAny_bind (wpAny_bind (wpAny_field hos hds (x := .none) rfl (wpAny_bind (wpAny_field hos hds (x := .none) rfl (wpAny_bind (wpAny_field hos hds (x := vs) rfl (wpAny_pure ?_)))))))
  refine wpAny_bind (HT.slicePart_ ps ?_)
  show wpAny _ _ (if ((-1 : Int) == 0) = true then _ else _) _ _ s
  rw [if_neg (by decide)]
  refine wpAny_bind (slicePart_none (wpAny_bind (slicePart_none (wpAny_bind (wpAny_pure ?_)))))
  have e1 : Builtin.Slice.sliceAdjust none none (-1) (n : Int) = ((n : Int) - 1, -1) := rfl
  show wpAny _ _ (match Builtin.Slice.sliceAdjust none none (-1) (n : Int) with | (lo, hi) => pure (lo, (-1 : Int), Builtin.Slice.slicePlaces lo hi (-1))) _ _ s
  rw [e1]
  have e2 : Builtin.Slice.slicePlaces ((n : Int) - 1) (-1) (-1) = n := by
    unfold Builtin.Slice.slicePlaces
    rw [if_neg (by decide)]
    split
    · rw [show (- -1 : Int) = 1 by decide, Int.ediv_one]; omega
    · omega
  show wpAny _ _ (pure ((n : Int) - 1, (-1 : Int), Builtin.Slice.slicePlaces ((n : Int) - 1) (-1) (-1))) _ _ s
  rw [e2]
  exact wpAny_pure h
theorem pick_back (xs : Array Value) : ((List.range xs.size).filterMap fun (m : Nat) => xs[((xs.size : Int) - 1 + (m : Int) * -1).toNat]?).toArray = xs.toList.reverse.toArray := by
  congr 1
  refine List.ext_getElem? fun i => ?_
  have key : ∀ (l : List Nat), (∀ m ∈ l, m < xs.size) → (l.filterMap fun (m : Nat) => xs[((xs.size : Int) - 1 + (m : Int) * -1).toNat]?) = l.map fun m => xs.toList.reverse[m]?.getD default := by
    intro l hl
    induction l with
    | nil => rfl
    | cons m l ih =>
      have hm := hl m List.mem_cons_self
      have e : ((xs.size : Int) - 1 + (m : Int) * -1).toNat = xs.size - 1 - m := by omega
      rw [List.filterMap_cons, e, Array.getElem?_eq_getElem (by omega), ih fun k hk => hl k (List.mem_cons_of_mem _ hk)]
      simp only [List.map_cons]
      congr 1
      rw [List.getElem?_reverse (by simpa using hm)]
      simp [Array.getElem?_eq_getElem (show xs.size - 1 - m < xs.size by omega)]
  rw [key _ fun m hm => List.mem_range.mp hm, List.getElem?_map]
  by_cases hi : i < xs.size
  · rw [List.getElem?_range hi]
    rw [Option.map_some, List.getElem?_eq_getElem (by simpa using hi)]
    rfl
  · rw [List.getElem?_eq_none (by simpa using hi), List.getElem?_eq_none (by simpa using hi)]
    rfl
theorem tup_back {t sl : Addr} {items : Array Value} {vl vu vs : Value} {prog : Program} {w : World} {A : Around} {E : Value → Shared → Prop} {s : Shared} {Q : Value → Shared → Prop} (ht : IsTup s.heap t items) (hs : s.heap.IsSliceOf sl vl vu vs) (pl : IsPart vl none) (pu : IsPart vu none) (ps : IsPart vs (some (-1)))
    (h : Q (.ref s.heap.objs.size) { s with heap := s.heap.push { cls := .type "tuple", data := .seq items.toList.reverse.toArray } }) (hsz : items.size ≤ sizeLine) : wpAny (model prog w) A (getItem (.ref t) (.ref sl)) Q E s := by
  have fits : sizeOk (.seq items.toList.reverse.toArray) := by
    show items.toList.reverse.toArray.size ≤ sizeLine
    rw [List.size_toArray, List.length_reverse, Array.length_toList]
    exact hsz
  obtain ⟨os, hos, hcs, hds⟩ := id hs
  have hTs : s.TypeIs (.ref sl) "slice" := ⟨os, hos, hcs⟩
  unfold getItem
  (try with_reducible refine wpAny_holding ?_)
  first | refine wpAny_bind (wpAny_pure ?_) | skip
  refine wpAny_bind (wpAny_sequenceKey ht.typeIs (by decide) ?_)
  refine wpAny_bind (wpAny_callSpecial?_slot (name := Str.ofString "__getitem__") ht.typeIs slot_tuple_getitem (wpAny_call_entry slot_tuple_getitem ht.typeIs entry_tuple_getitem ?_ (args_tuple_getitem _ _)))
  show wpAny _ _ (Builtin.Tuple.tupleItemsOf (.ref t) >>= _) _ _ s
  refine wpAny_bind (tupleItemsOf_ ht ?_)
  refine wpAny_bind (wpAny_typeOf hTs ?_)
  rw [if_pos (by decide)]
  refine wpAny_bind (slice_back hs pl pu ps ?_)
  show wpAny _ _ (if (((items.size : Int) - 1) == 0 && (-1 : Int) == 1 && items.size == items.size) = true then _ else _) _ _ s
  rw [if_neg (by simp), pick_back]
  first
    | exact wpAny_bind (m := Builtin.Tuple.tupleExact _) (wpAny_newObj_type (wpAny_pure ⟨_, rfl, wpAny_pure h⟩) fits)
    | exact wpAny_bind (m := Builtin.Tuple.tupleExact _) (wpAny_newObj_type (wpAny_bind (wpAny_pure (wpAny_pure ⟨_, rfl, wpAny_pure h⟩))) fits)
    | exact wpAny_bind (wpAny_bind (m := Builtin.Tuple.tupleExact _) (wpAny_newObj_type (wpAny_pure (wpAny_pure ⟨_, rfl, wpAny_pure h⟩)) fits))
    | exact wpAny_bind (wpAny_bind (m := Builtin.Tuple.tupleExact _) (wpAny_newObj_type (wpAny_pure ⟨_, rfl, wpAny_pure h⟩) fits))
end
section
variable {X : Cx} {W : WX} {a e : Expr} {fa : FF D} {pos p2 : Pos} {fl fh fk : FF (Option Int)} {lo hi : Option Expr} {k : Expr}
theorem de_step (m : Bool) (he : DE X W a fa) (hl : DP X W lo fl) (hh : DP X W hi fh) (hk : DP X W (some k) fk) : DE X W (.Subscript a (.Slice lo hi (some k) p2) pos) (fstep m fa fl fh fk) := by
  refine ⟨fun pins s σ H Q I h => ?_⟩
  obtain ⟨ρ, env, st, g, o⟩ := h
  refine Subscript_ (thn (he.run pins s σ H _ I ⟨ρ, env, st, g, OutR.bind (R := RelD X.K) o⟩) ?_)
  rintro v s1 ⟨x, H1, I1, rx, ρ1, d, st1, -, e1, q1, r1, o1⟩
  refine wpAny_Slice (thn (hl.run pins s1 σ H1 _ I1 ⟨ρ1, env, st1, g.ext e1 q1, OutR.bind (R := RO) o1⟩) ?_)
  rintro vl s2 ⟨l, H2, I2, pl, ρ2, l', st2, -, e2, q2, r2, o2⟩
  cases r2
  refine thn (hh.run pins s2 σ H2 _ I2 ⟨ρ2, env, st2, g.ext (e1.trans e2) q2, OutR.bind (R := RO) o2⟩) ?_
  rintro vu s3 ⟨u, H3, I3, pu, ρ3, u', st3, -, e3, q3, r3, o3⟩
  cases r3
  refine thn (hk.run pins s3 σ H3 _ I3 ⟨ρ3, env, st3, g.ext (e1.trans (e2.trans e3)) q3, OutR.bind (R := RO) o3⟩) ?_
  rintro vs s4 ⟨c, H4, I4, ps, ρ4, c', st4, -, e4, q4, r4, o4⟩
  cases r4
  have rd := r1.ext (e2.trans (e3.trans e4))
  have I5 : L2.Inv X pins σ H4 { s4 with heap := s4.heap.push { cls := .type "slice", data := .fields #[vl, vu, vs] } } := I4.kept (t' := s4.toks) fun b ob q => Heap.get?_push_of_some _ q
  have hsl := Heap.IsSliceOf.new s4.heap vl vu vs
  unfold stepD at o4
  split at o4
  · rename_i c
    split at o4
    · exact o4.elim
    · rename_i hc0
      split at o4
      · rename_i xs
        split at o4
        · rename_i hh
          obtain ⟨rfl, rfl, rfl, hlen⟩ := hh
          obtain ⟨p, ws, rfl, h1, h2⟩ := tup_ok rd
          cases rx
          obtain ⟨its, r, ht, hz⟩ := I5.tuple h1
          have hlen := r.length
          show wpAny (model X.prog X.w) X.A (subscriptTail a (.Slice lo hi (some k) p2) (.ref p) (.ref s4.heap.objs.size)) (EP X pins σ Q) X.xe { s4 with heap := s4.heap.push { cls := .type "slice", data := .fields #[vl, vu, vs] } }
          refine tail_any (ops := [.ref p, .ref s4.heap.objs.size]) ht.typeIs slot_tuple_getitem.lookup ?_ (by with_unfolding_all rfl)
          refine tup_back ht hsl pl pu ps ?_ (by rw [List.size_toArray]; omega)
          refine ⟨.ref _, _, I5.laid (t' := s4.toks) (o := .tup ws.reverse) (fun b ob q => Heap.get?_push_of_some _ q) (Nat.le_refl _) ?_, rfl, out_tup o4 q4 h2.reverse (I5.hok.fresh (Nat.le_refl _))⟩
          exact ⟨by rw [List.length_reverse]; omega, its.reverse, r.reverse, IsTup.new _ _⟩
        · exact o4.elim
      · split at o4
        · rename_i xs ex
          obtain ⟨p, ws, rfl, h1, h2⟩ := seqL_ok q4 rd ex
          cases rx
          obtain ⟨its, r, ht, hz⟩ := I5.list h1
          have hlen := r.length
          show wpAny (model X.prog X.w) X.A (subscriptTail a (.Slice lo hi (some k) p2) (.ref p) (.ref s4.heap.objs.size)) (EP X pins σ Q) X.xe { s4 with heap := s4.heap.push { cls := .type "slice", data := .fields #[vl, vu, vs] } }
          refine tail_any (ops := [.ref p, .ref s4.heap.objs.size]) ht.isList.typeIs (PySem.slot_list_getitem.lookup) ?_ (by with_unfolding_all rfl)
          refine wpAny_getItem_list_slice ht.isList hsl pl pu ps (by simpa using hc0) ?_ (by rw [List.size_toArray]; omega)
          have hsz : its.toArray.size = xs.length := by rw [List.size_toArray, ← hlen, h2.length]
          have hp : slicePick its.toArray l u (some c) = (pick (stepOf xs.length l u c) its).toArray := by
            unfold slicePick
            rw [hsz]
            congr 1
            unfold DL.pick
            simp
          rw [hp]
          refine ⟨.ref _, _, I5.laid (t' := s4.toks) (o := .lst (pick (stepOf xs.length l u c) ws)) (fun b ob q => Heap.get?_push_of_some _ q) (Nat.le_refl _) ?_, rfl, out_newL m q4 (h2.pick _) o4 (I5.hok.fresh (Nat.le_refl _))⟩
          refine ⟨?_, _, 0, Vals.pick r _, Heap.get?_push_size _ rfl⟩
          have := slicePick_size_le its.toArray l u (some c)
          rw [hp, List.size_toArray] at this
          rw [(Vals.pick r _).length]
          exact Nat.le_trans this (by rw [List.size_toArray]; omega)
        · exact o4.elim
  · exact o4.elim
/-! dict of a list of pairs -/
def pairD : D → Option (Key × D)
  | .tup [k, v] => (keyD k).map (·, v)
  | _ => none
def pairsD : List D → Option (List (Key × D))
  | [] => some []
  | d :: ds => match pairD d, pairsD ds with
    | some p, some ps => some (p :: ps)
    | _, _ => none
def dictD (ds : List D) (st : Store) : Option (D × Store) := match ds with
  | [x] => match (seqL st x).bind pairsD with
    | some kvs => some (.obj st.length, st ++ [.dk (mergeD [] kvs)])
    | none => none
  | _ => none
theorem pairsD_ok {K : PySem.W.Frag} {ρ : Pl} {H : Hp} : ∀ {ds : List D} {vs : List V} {kvs : List (Key × D)}, RelDs K ρ H ds vs → pairsD ds = some kvs →
    ∃ (ps : List Addr) (vvs : List (Key × V)), vs = ps.map V.ref ∧ Paired (fun p kv => SqT K H p [kV kv.1, kv.2]) ps vvs ∧ RelKV K ρ H kvs vvs
  | [], _, _, r, e => by cases r; cases e; exact ⟨[], [], rfl, .nil, .nil⟩
  | d :: ds, _, kvs, r, e => by
    cases r with
    | cons r1 r2 =>
      unfold pairsD at e
      split at e
      · rename_i p ps e1 e2
        cases e
        obtain ⟨qs, vvs, h1, h2, h3⟩ := pairsD_ok r2 e2
        unfold pairD at e1
        split at e1
        · rename_i kd vd
          rw [Option.map_eq_some_iff] at e1
          obtain ⟨k, e3, rfl⟩ := e1
          obtain ⟨a, us, rfl, h4, h5⟩ := tup_ok r1
          obtain ⟨u1, u2, rfl, g1, g2⟩ := h5.two
          have := keyD_ok g1 e3
          subst this
          exact ⟨a :: qs, (k, u2) :: vvs, by rw [h1]; rfl, .cons h4 h2, h3.cons g2⟩
        · cases e1
      · cases e
theorem cd_dict (hc : X.calm = true) : CallD X (.type "dict") dictD := CallD.by (call_dictP hc) fun ρ H st ds vs Q d st' rs rd e q => by
  unfold dictD at e
  split at e
  · rename_i x
    split at e
    · rename_i kvs hk
      cases e
      rw [Option.bind_eq_some_iff] at hk
      obtain ⟨xs, h1, h2⟩ := hk
      obtain ⟨v, rfl, r1⟩ := rd.one
      obtain ⟨a, us, rfl, h3, h4⟩ := seqL_ok rs r1 h1
      obtain ⟨ps, vvs, rfl, h6, h7⟩ := pairsD_ok h4 h2
      refine ⟨a, ps, vvs, rfl, h3, h6, fun p np => ?_⟩
      have em : Ext ρ H (ρ.add p) (upd H p (.dK (mergeK [] vvs))) := Ext.newO rs np
      have km : RelKV X.K (ρ.add p) (upd H p (.dK (mergeK [] vvs))) (mergeD [] kvs) (mergeK [] vvs) := RelKV.merge (h7.ext em) .nil
      exact q _ _ _ em (rs.newO np ⟨_, upd_same, km.1, km.2⟩) (.obj (rs.last _))
    · cases e
  · cases e
/-! list(range(..)) -/
def rgD (a b : Int) : List D := (List.range (b - a).toNat).map fun (i : Nat) => .int (a + i)
def newLD (m : Bool) (xs : List D) (st : Store) : Res D := if m then .ok (.obj st.length) (st ++ [.lst xs]) else .ok (.lst xs) st
theorem rg_rel {K : PySem.W.Frag} {ρ : Pl} {H : Hp} (a b : Int) : RelDs K ρ H (rgD a b) (rgV a b) := by
  unfold rgD rgV
  induction List.range (b - a).toNat with
  | nil => exact .nil
  | cons i l ih => exact .cons (.int _) ih
def okRg (a b : Int) : Bool := decide (-(2 ^ 62) ≤ a ∧ a < 2 ^ 62 ∧ -(2 ^ 62) ≤ b ∧ b < 2 ^ 62 ∧ (b - a).toNat ≤ 2 ^ 24)
theorem okRg_ok {a b : Int} (h : okRg a b = true) : RgOk a b := of_decide_eq_true (p := _ ∧ _) h
def flistRg1 (m : Bool) (f : FF D) : FF D := fun env st => (f env st).bind fun d st1 => match d with
  | .int j => if okRg 0 j then newLD m (rgD 0 j) st1 else .stuck
  | _ => .stuck
def flistRg2 (m : Bool) (f g : FF D) : FF D := fun env st => (f env st).bind fun d st1 => (g env st1).bind fun e st2 => match d, e with
  | .int i, .int j => if okRg i j then newLD m (rgD i j) st2 else .stuck
  | _, _ => .stuck
variable {b : Expr} {fb : FF D} {pp pl2 pr : Pos}
theorem de_listRg1 (m : Bool) (hc : X.calm = true) (hg : Gl X "list") (hm : X.mg "list" = none) (hg2 : Gl X "range") (hm2 : X.mg "range" = none) (ha : DE X W a fa) (hs : PySem.W.isStarred a = false) :
    DE X W (.Call (.Name "list" pl2) [.Call (.Name "range" pp) [a] [] pr] [] pos) (flistRg1 m fa) := by
  refine PE.imp (pe_listRg hc hg hm (prg_1 hg2 hm2 ha (by rw [star_plain hs]))) fun σ H Q h => ?_
  obtain ⟨ρ, env, st, g, o⟩ := h
  refine ⟨ρ, env, st, g, (OutR.bind (R := RelD X.K) o).mono ?_⟩
  rintro v H1 ⟨ρ1, d, st1, -, e1, s1, r1, o1⟩
  split at o1
  · rename_i j
    cases r1
    split at o1
    · rename_i ok
      exact ⟨j, rfl, okRg_ok ok, fun q nq => out_newL m s1 (rg_rel 0 j) o1 nq⟩
    · exact o1.elim
  · exact o1.elim
theorem de_listRg2 (m : Bool) (hc : X.calm = true) (hg : Gl X "list") (hm : X.mg "list" = none) (hg2 : Gl X "range") (hm2 : X.mg "range" = none) (ha : DE X W a fa) (hb : DE X W b fb) (hs : PySem.W.isStarred a = false) (hs2 : PySem.W.isStarred b = false) :
    DE X W (.Call (.Name "list" pl2) [.Call (.Name "range" pp) [a, b] [] pr] [] pos) (flistRg2 m fa fb) := by
  refine PE.imp (pe_listRg hc hg hm (prg_2 hg2 hm2 ha hb (by rw [star_plain hs]) (by rw [star_plain hs2]) (by rw [star_plain hs2]; rfl))) fun σ H Q h => ?_
  obtain ⟨ρ, env, st, g, o⟩ := h
  refine ⟨ρ, env, st, g, (OutR.bind (R := RelD X.K) o).mono ?_⟩
  rintro v H1 ⟨ρ1, d, st1, -, e1, s1, r1, o1⟩
  refine ⟨ρ1, env, st1, g.ext e1 s1, (OutR.bind (R := RelD X.K) o1).mono ?_⟩
  rintro u H2 ⟨ρ2, e, st2, -, e2, s2, r2, o2⟩
  split at o2
  · rename_i i j
    cases r1; cases r2
    split at o2
    · rename_i ok
      exact ⟨i, j, rfl, rfl, okRg_ok ok, fun q nq => out_newL m s2 (rg_rel i j) o2 nq⟩
    · exact o2.elim
  · exact o2.elim
end
end DL
end
section
/-! DLS: sorted(..) of tuples of ints and texts. -/
namespace DL
open PySem PySem.Spec PyProof.Rows L2 Srt SrtO
/-! an order of keys -/
def ltKey : Key → Key → Bool
  | .inl i, .inl j => decide (i < j)
  | .inr a, .inr b => decide (a.cps.toList < b.cps.toList)
  | .inl _, .inr _ => true
  | .inr _, .inl _ => false
def lexK : List Key → List Key → Bool
  | [], [] => false
  | [], _ :: _ => true
  | _ :: _, [] => false
  | a :: as, b :: bs => if a = b then lexK as bs else ltKey a b
theorem str_ext {a b : Str} (h : a.cps.toList = b.cps.toList) : a = b := by
  cases a; cases b
  congr 1
  exact Array.toList_inj.mp h
theorem ltKey_asym {a b : Key} (h : ltKey a b = true) : ltKey b a = false := by
  match a, b with
  | .inl i, .inl j => simp only [ltKey, decide_eq_true_eq, decide_eq_false_iff_not] at h ⊢; omega
  | .inr x, .inr y =>
    simp only [ltKey, decide_eq_true_eq, decide_eq_false_iff_not] at h ⊢
    exact fun h2 => List.lt_irrefl _ (List.lt_trans h h2)
  | .inl _, .inr _ => rfl
  | .inr _, .inl _ => cases h
theorem ltKey_tri {a b : Key} (h1 : ltKey a b = false) (h2 : ltKey b a = false) : a = b := by
  match a, b with
  | .inl i, .inl j =>
    simp only [ltKey, decide_eq_false_iff_not] at h1 h2
    congr 1; omega
  | .inr x, .inr y =>
    simp only [ltKey, decide_eq_false_iff_not] at h1 h2
    congr 1
    exact str_ext (List.le_antisymm (List.not_lt.mp h2) (List.not_lt.mp h1))
  | .inl _, .inr _ => cases h1
  | .inr _, .inl _ => cases h2
theorem ltKey_trans {a b c : Key} (h1 : ltKey a b = true) (h2 : ltKey b c = true) : ltKey a c = true := by
  match a, b, c with
  | .inl i, .inl j, .inl k => simp only [ltKey, decide_eq_true_eq] at h1 h2 ⊢; omega
  | .inr x, .inr y, .inr z => simp only [ltKey, decide_eq_true_eq] at h1 h2 ⊢; exact List.lt_trans h1 h2
  | .inl _, _, .inr _ => rfl
  | .inr _, .inl _, _ => cases h1
  | _, .inr _, .inl _ => cases h2
theorem ltKey_irr (a : Key) : ltKey a a = false := by
  cases h : ltKey a a with
  | false => rfl
  | true => have := ltKey_asym h; rw [h] at this; cases this
theorem lexK_asym : ∀ as bs : List Key, lexK as bs = true → lexK bs as = false
  | [], [], h => by cases h
  | [], _ :: _, _ => rfl
  | _ :: _, [], h => by cases h
  | a :: as, b :: bs, h => by
    unfold lexK at h ⊢
    by_cases e : a = b
    · rw [if_pos e] at h; rw [if_pos e.symm]; exact lexK_asym as bs h
    · rw [if_neg e] at h; rw [if_neg fun z => e z.symm]; exact ltKey_asym h
theorem lexK_tr : ∀ as bs cs : List Key, lexK bs as = false → lexK cs bs = false → lexK cs as = false
  | [], [], [], _, _ => rfl
  | [], [], _ :: _, _, h => by unfold lexK; rfl
  | [], _ :: _, [], h, h2 => by cases h2
  | [], _ :: _, _ :: _, _, _ => by unfold lexK; rfl
  | _ :: _, [], _, h, _ => by cases h
  | _ :: _, _ :: _, [], _, h => by cases h
  | a :: as, b :: bs, c :: cs, h1, h2 => by
    unfold lexK at h1 h2 ⊢
    by_cases e1 : b = a
    · subst e1
      rw [if_pos rfl] at h1
      by_cases e2 : c = b
      · subst e2
        rw [if_pos rfl] at h2 ⊢
        exact lexK_tr as bs cs h1 h2
      · rw [if_neg e2] at h2 ⊢; exact h2
    · rw [if_neg e1] at h1
      by_cases e2 : c = b
      · subst e2
        rw [if_neg e1]; exact h1
      · rw [if_neg e2] at h2
        by_cases e3 : c = a
        · subst e3
          exact absurd (ltKey_tri h1 h2) e1
        · rw [if_neg e3]
          cases h : ltKey c a with
          | false => rfl
          | true =>
            have hab : ltKey a b = true := by
              cases q : ltKey a b with
              | true => rfl
              | false => exact absurd (ltKey_tri h1 q) e1
            have := ltKey_trans h hab
            rw [h2] at this; cases this
theorem swo_key {α : Type} (k : α → List Key) : Swo fun x y => lexK (k x) (k y) := ⟨fun x y h => lexK_asym _ _ h, fun x y z h1 h2 => lexK_tr _ _ _ h1 h2⟩
/-! a plain stable sort -/
def insB {α : Type} (lt : α → α → Bool) (y : α) (l : List α) : List α := (l.takeWhile fun x => !lt y x) ++ y :: (l.dropWhile fun x => !lt y x)
def isort {α : Type} (lt : α → α → Bool) (l : List α) : List α := l.foldl (fun acc y => insB lt y acc) []
theorem take_all {α : Type} {p : α → Bool} : ∀ {l : List α} {x : α}, x ∈ l.takeWhile p → p x = true
  | [], _, h => by cases h
  | a :: l, x, h => by
    rw [List.takeWhile_cons] at h
    split at h
    · rcases List.mem_cons.mp h with e | h
      · rw [e]; assumption
      · exact take_all h
    · cases h
theorem insB_ok {α : Type} {lt : α → α → Bool} (O : Swo lt) {acc O1 : List α} {y : α} (h : Srtd lt acc) (s : Stb lt acc O1) : Srtd lt (insB lt y acc) ∧ Stb lt (insB lt y acc) (O1 ++ [y]) := by
  have e : (acc.takeWhile fun x => !lt y x) ++ (acc.dropWhile fun x => !lt y x) = acc := List.takeWhile_append_dropWhile
  have h1 : ∀ x ∈ acc.takeWhile fun x => !lt y x, lt y x = false := fun x hx => by
    have := take_all hx
    simpa using this
  have h' : Srtd lt ((acc.takeWhile fun x => !lt y x) ++ (acc.dropWhile fun x => !lt y x)) := by rw [e]; exact h
  have h2 : ∀ x ∈ acc.dropWhile fun x => !lt y x, lt y x = true := by
    obtain ⟨-, h3, -⟩ := srtd_app.mp h'
    cases hd : acc.dropWhile fun x => !lt y x with
    | nil => intro x hx; cases hx
    | cons z r =>
      rw [hd] at h3
      have hz : lt y z = true := by
        have := List.head?_dropWhile_not (fun x => !lt y x) acc
        rw [hd] at this
        simpa using this
      exact O.lt_all h3 hz
  exact ⟨ins_srtd O h' h1 h2, ins_stb O h2 (by rw [e]; exact s)⟩
theorem isort_aux {α : Type} {lt : α → α → Bool} (O : Swo lt) : ∀ (l acc O1 : List α), Srtd lt acc → Stb lt acc O1 → Srtd lt (l.foldl (fun acc y => insB lt y acc) acc) ∧ Stb lt (l.foldl (fun acc y => insB lt y acc) acc) (O1 ++ l)
  | [], acc, O1, h, s => ⟨h, by simpa using s⟩
  | y :: l, acc, O1, h, s => by
    obtain ⟨h1, h2⟩ := insB_ok (y := y) O h s
    have := isort_aux O l _ _ h1 h2
    simpa using this
theorem isort_ok {α : Type} {lt : α → α → Bool} (O : Swo lt) (l : List α) : Srtd lt (isort lt l) ∧ Stb lt (isort lt l) l := by
  have := isort_aux O l [] [] List.Pairwise.nil (Stb.refl _)
  rw [List.nil_append] at this
  exact this
/-! tuples of keys in the heap -/
def KI (k : Key) (u : Value) : Prop := RelV (kV k) u
def IsKT (h : Heap) (v : Value) (ks : List Key) : Prop := ∃ a o its n, v = .ref a ∧ h.get? a = some o ∧ o.cls = .type "tuple" ∧ o.data = .seq its n ∧ Vals (ks.map kV) its.toList
theorem IsKT.keeps {h h' : Heap} {v : Value} {ks : List Key} (p : IsKT h v ks) (k : ∀ b o, h.get? b = some o → o.cls = .type "tuple" → h'.get? b = some o) : IsKT h' v ks := by
  obtain ⟨a, o, its, n, e, ho, hc, hd⟩ := p
  exact ⟨a, o, its, n, e, k _ _ ho hc, hc, hd⟩
/-- the keys of a tuple, read off the heap -/
def keyOfV : Value → Key
  | .int i _ => .inl i
  | .str x _ => .inr x
  | _ => .inl 0
def keysAt (h : Heap) (v : Value) : List Key := match v with
  | .ref a => match h.get? a with
    | some o => match o.data with
      | .seq its _ => its.toList.map keyOfV
      | _ => []
    | none => []
  | _ => []
theorem keys_vals : ∀ {ks : List Key} {us : List Value}, Vals (ks.map kV) us → us.map keyOfV = ks
  | [], _, h => by cases h; rfl
  | k :: ks, _, h => by
    cases h with
    | cons r t =>
      rw [List.map_cons, keys_vals t]
      congr 1
      cases k with
      | inl i => obtain ⟨t, rfl⟩ := (show ∃ t, _ = Value.int i t from r); rfl
      | inr x => obtain ⟨t, rfl⟩ := (show ∃ t, _ = Value.str x t from r); rfl
theorem IsKT.keys {h : Heap} {v : Value} {ks : List Key} (p : IsKT h v ks) : keysAt h v = ks := by
  obtain ⟨a, o, its, n, rfl, ho, hc, hd, r⟩ := p
  unfold keysAt
  simp only [ho, hd]
  exact keys_vals r
def kindK : Key → Bool
  | .inl _ => true
  | .inr _ => false
section
variable {prog : Program} {w : World} {A : Around} {E : Value → Shared → Prop} {s : Shared}
theorem lex_walk {fin : Bool} {Q : Bool → Shared → Prop} : ∀ (i : Nat) {ks ms : List Key} {us ws : List Value}, ks.map kindK = ms.map kindK → Vals (ks.map kV) us → Vals (ms.map kV) ws → fin = false → Q (lexK ks ms) s → PySem.W.KatLex prog w A true fin Q (us.zip ws) i s
  | i, [], [], _, _, _, r1, r2, hf, h => by
    cases r1; cases r2
    subst hf
    exact PySem.W.kat_nil h
  | i, [], _ :: _, _, _, e, _, _, _, _ => by cases e
  | i, _ :: _, [], _, _, e, _, _, _, _ => by cases e
  | i, k :: ks, m :: ms, _, _, e, r1, r2, hf, h => by
    cases r1 with
    | cons a1 t1 =>
      cases r2 with
      | cons a2 t2 =>
        simp only [List.map_cons, List.cons.injEq] at e
        match k, m, e.1 with
        | .inl x, .inl y, _ =>
          obtain ⟨t, rfl⟩ := (show ∃ t, _ = Value.int x t from a1)
          obtain ⟨u, rfl⟩ := (show ∃ t, _ = Value.int y t from a2)
          refine PySem.W.kat_cons (SeqAt.EqAt.int_int x t y u prog w _ _ ?_)
          refine PySem.W.kat_go (fun e1 => ?_) (fun e1 => ?_)
          · have ex : x = y := by simpa using e1
            subst ex
            refine PySem.W.kat_yes (lex_walk (i + 1) e.2 t1 t2 hf ?_)
            unfold lexK at h
            rw [if_pos rfl] at h
            exact h
          · have ex : ¬ x = y := by simpa using e1
            refine PySem.W.kat_no (oneLt_any_int ?_)
            unfold lexK at h
            rw [if_neg fun z => ex (Sum.inl.inj z)] at h
            exact h
        | .inr x, .inr y, _ =>
          obtain ⟨t, rfl⟩ := (show ∃ t, _ = Value.str x t from a1)
          obtain ⟨u, rfl⟩ := (show ∃ t, _ = Value.str y t from a2)
          refine PySem.W.kat_cons (SeqAt.EqAt.str_str x t y u prog w _ _ ?_)
          refine PySem.W.kat_go (fun e1 => ?_) (fun e1 => ?_)
          · have ex : x = y := by simpa using e1
            subst ex
            refine PySem.W.kat_yes (lex_walk (i + 1) e.2 t1 t2 hf ?_)
            unfold lexK at h
            rw [if_pos rfl] at h
            exact h
          · have ex : ¬ x = y := by simpa using e1
            refine PySem.W.kat_no (oneLt_any_str ?_)
            unfold lexK at h
            rw [if_neg fun z => ex (Sum.inr.inj z)] at h
            exact h
theorem kt_cmp {vs : List Value} {sh : List Bool} {k : Value → List Key} (hp : ∀ v ∈ vs, IsKT s.heap v (k v) ∧ (k v).map kindK = sh) : Cmp prog w A s (tuples' true) (fun p => p.1 ∈ vs) (lt2 fun v u => lexK (k v) (k u)) := by
  intro p q hm hm'
  obtain ⟨⟨a, o, its, n, e, ho, hc, hd, r⟩, sh1⟩ := hp _ hm
  obtain ⟨⟨a', o', its', n', e', ho', hc', hd', r'⟩, sh2⟩ := hp _ hm'
  show wpAny (model prog w) A (keyLt' (tuples' true) p.1 q.1) (fun r s' => s' = s ∧ r = lexK (k p.1) (k q.1)) (fun _ _ => False) s
  generalize k p.1 = ks at *
  generalize k q.1 = ms at *
  rw [e, e']
  refine PySem.W.kat_lt ho hd ho' hd' (lex_walk 0 (sh1.trans sh2.symm) r r' ?_ ⟨rfl, rfl⟩)
  have l1 := r.length
  have l2 := r'.length
  have l3 := congrArg List.length (sh1.trans sh2.symm)
  simp only [List.length_map] at l1 l2 l3
  have : its.size = its'.size := by rw [← Array.length_toList, ← Array.length_toList]; omega
  rw [this]
  exact decide_eq_false (Nat.lt_irrefl _)
theorem kt_firsts {h : Heap} {b : Bool} : ∀ {vs : List Value}, (∀ v ∈ vs, ∃ c cs, IsKT h v (c :: cs) ∧ kindK c = b) → ∃ fs : List Value, PySem.W.KatTups h vs fs ∧ fs.length = vs.length ∧ ∀ f ∈ fs, ∃ c, kindK c = b ∧ RelV (kV c) f
  | [], _ => ⟨[], PySem.W.KatTups.nil, rfl, fun _ hm => by cases hm⟩
  | v :: vs, hp => by
    obtain ⟨fs, h1, h2, h3⟩ := kt_firsts (vs := vs) fun v' hm => hp v' (List.mem_cons_of_mem _ hm)
    obtain ⟨c, cs, ⟨a, o, its, n, e, ho, hc, hd, r⟩, hb⟩ := hp v List.mem_cons_self
    subst e
    cases hl : its.toList with
    | nil => rw [hl] at r; cases r
    | cons u us =>
      rw [hl] at r
      cases r with
      | cons r1 r2 =>
        have h0 : its[0]? = some u := by rw [← Array.getElem?_toList, hl]; rfl
        refine ⟨u :: fs, PySem.W.KatTups.cons ho hc hd h0 h1, by simp [h2], fun f hm => ?_⟩
        rcases List.mem_cons.mp hm with rfl | hm
        · exact ⟨c, hb, r1⟩
        · exact h3 f hm
theorem kt_sortable {a : Addr} {vs : List Value} {b : Bool} {sh : List Bool} {k : Value → List Key} (h0 : 0 < vs.length) (hp : ∀ v ∈ vs, IsKT s.heap v (k v) ∧ (k v).map kindK = b :: sh) (ha : ∀ o, s.heap.get? a = some o → o.cls ≠ .type "tuple") :
    SortableO prog w A s a vs fun v u => lexK (k v) (k u) := by
  intro h' keep
  have hp' : ∀ v ∈ vs, IsKT h' v (k v) ∧ (k v).map kindK = b :: sh := fun v hm => ⟨(hp v hm).1.keeps fun b o e c => keep b o (fun z => by subst z; exact ha o e c) e, (hp v hm).2⟩
  obtain ⟨fs, h1, h2, h3⟩ := kt_firsts (b := b) fun v hm => by
    obtain ⟨q1, q2⟩ := hp' v hm
    cases hk : k v with
    | nil => rw [hk] at q2; cases q2
    | cons c cs =>
      rw [hk] at q1 q2
      simp only [List.map_cons, List.cons.injEq] at q2
      exact ⟨c, cs, q1, q2.1⟩
  refine ⟨tuples' true, fun Q E hq => ?_, kt_cmp (s := { s with heap := h' }) hp'⟩
  cases b with
  | true =>
    refine PySem.W.kat_kind (T := .type "int") h1 (by omega) (fun f hm => ?_) (by rfl) ?_
    · obtain ⟨c, hc, r⟩ := h3 f hm
      cases c with
      | inl i => obtain ⟨t, rfl⟩ := (show ∃ t, f = Value.int i t from r); exact PySem.W.Looks.now
      | inr x => cases hc
    · have e : (Value.type "int" != Value.type "tuple") = true := by decide +kernel
      rw [e]; exact hq
  | false =>
    refine PySem.W.kat_kind (T := .type "str") h1 (by omega) (fun f hm => ?_) (by rfl) ?_
    · obtain ⟨c, hc, r⟩ := h3 f hm
      cases c with
      | inl i => cases hc
      | inr x => obtain ⟨t, rfl⟩ := (show ∃ t, f = Value.str x t from r); exact PySem.W.Looks.now
    · have e : (Value.type "str" != Value.type "tuple") = true := by decide +kernel
      rw [e]; exact hq
end
/-! sorted -/
def keysD : List D → Option (List Key)
  | [] => some []
  | d :: ds => match keyD d, keysD ds with
    | some k, some ks => some (k :: ks)
    | _, _ => none
def tupKeys : D → Option (List Key)
  | .tup xs => keysD xs
  | _ => none
def tk (d : D) : List Key := (tupKeys d).getD []
/-- all of them tuples of keys of one kind -/
def sortable (xs : List D) : Bool := match xs with
  | [] => true
  | x :: r => (tupKeys x).isSome && !(tk x).isEmpty && r.all fun y => (tupKeys y).isSome && (tk y).map kindK == (tk x).map kindK
def sortedD (ds : List D) (st : Store) : Option (D × Store) := match ds with
  | [x] => match seqL st x with
    | some xs => if sortable xs then some (.lst (isort (fun x y => lexK (tk x) (tk y)) xs), st) else none
    | none => none
  | _ => none
theorem sortable_ok {xs : List D} (h : sortable xs = true) : xs = [] ∨ ∃ b sh, ∀ x ∈ xs, (tupKeys x).isSome = true ∧ (tk x).map kindK = b :: sh := by
  unfold sortable at h
  split at h
  · exact .inl rfl
  · rename_i x r
    right
    simp only [Bool.and_eq_true, Bool.not_eq_true', List.all_eq_true, beq_iff_eq] at h
    obtain ⟨⟨h1, h2⟩, h3⟩ := h
    cases hk : tk x with
    | nil => rw [hk] at h2; cases h2
    | cons c cs =>
      refine ⟨kindK c, cs.map kindK, fun y hy => ?_⟩
      rcases List.mem_cons.mp hy with rfl | hy
      · exact ⟨h1, by rw [hk]; rfl⟩
      · exact ⟨(h3 y hy).1, by rw [(h3 y hy).2, hk]; rfl⟩
theorem Stb.symm {α : Type} {lt : α → α → Bool} {l m : List α} (h : Stb lt l m) : Stb lt m l := ⟨h.perm.symm, fun x => (h.cls x).symm⟩
theorem while_congr {α : Type} {p q : α → Bool} : ∀ {l : List α}, (∀ x ∈ l, p x = q x) → l.takeWhile p = l.takeWhile q ∧ l.dropWhile p = l.dropWhile q
  | [], _ => ⟨rfl, rfl⟩
  | a :: l, h => by
    obtain ⟨h1, h2⟩ := while_congr (l := l) fun x hx => h x (List.mem_cons_of_mem _ hx)
    have h0 := h a List.mem_cons_self
    rw [List.takeWhile_cons, List.takeWhile_cons, List.dropWhile_cons, List.dropWhile_cons, h0, h1, h2]
    exact ⟨rfl, rfl⟩
theorem insB_mem {α : Type} {lt : α → α → Bool} {y x : α} {l : List α} (h : x ∈ insB lt y l) : x = y ∨ x ∈ l := by
  unfold insB at h
  rcases List.mem_append.mp h with h | h
  · exact .inr ((List.takeWhile_sublist _).subset h)
  · rcases List.mem_cons.mp h with h | h
    · exact .inl h
    · exact .inr ((List.dropWhile_sublist _).subset h)
theorem isort_congr {α : Type} {lt lt' : α → α → Bool} {P : α → Prop} (h : ∀ x y, P x → P y → lt x y = lt' x y) : ∀ (l acc : List α), (∀ x ∈ l, P x) → (∀ x ∈ acc, P x) → l.foldl (fun acc y => insB lt y acc) acc = l.foldl (fun acc y => insB lt' y acc) acc
  | [], _, _, _ => rfl
  | y :: l, acc, h1, h2 => by
    have e : insB lt y acc = insB lt' y acc := by
      unfold insB
      obtain ⟨q1, q2⟩ := while_congr (l := acc) (p := fun x => !lt y x) (q := fun x => !lt' y x) fun x hx => by rw [h y x (h1 y List.mem_cons_self) (h2 x hx)]
      rw [q1, q2]
    simp only [List.foldl_cons]
    rw [e]
    refine isort_congr h l _ (fun x hx => h1 x (List.mem_cons_of_mem _ hx)) fun x hx => ?_
    rcases insB_mem hx with e | hx
    · rw [e]; exact h1 y List.mem_cons_self
    · exact h2 x hx
theorem while_map {α β : Type} {p : β → Bool} (f : α → β) : ∀ l : List α, (l.map f).takeWhile p = (l.takeWhile fun x => p (f x)).map f ∧ (l.map f).dropWhile p = (l.dropWhile fun x => p (f x)).map f
  | [] => ⟨rfl, rfl⟩
  | a :: l => by
    obtain ⟨h1, h2⟩ := while_map (p := p) f l
    simp only [List.map_cons, List.takeWhile_cons, List.dropWhile_cons]
    split
    · exact ⟨by rw [h1]; rfl, h2⟩
    · exact ⟨rfl, rfl⟩
theorem insB_map {α β : Type} {lt : β → β → Bool} (f : α → β) (y : α) (l : List α) : insB lt (f y) (l.map f) = (insB (fun a b => lt (f a) (f b)) y l).map f := by
  unfold insB
  obtain ⟨h1, h2⟩ := while_map (p := fun x => !lt (f y) x) f l
  rw [h1, h2]
  simp
theorem isort_map {α β : Type} {lt : β → β → Bool} (f : α → β) : ∀ (l acc : List α), (l.map f).foldl (fun acc y => insB lt y acc) (acc.map f) = (l.foldl (fun acc y => insB (fun a b => lt (f a) (f b)) y acc) acc).map f
  | [], _ => rfl
  | y :: l, acc => by
    simp only [List.map_cons, List.foldl_cons]
    rw [insB_map]
    exact isort_map f l _
theorem isort_len {α : Type} {lt : α → α → Bool} (O : Swo lt) (l : List α) : (isort lt l).length = l.length := (isort_ok O l).2.perm.length_eq
theorem isort_mem {α : Type} {lt : α → α → Bool} (O : Swo lt) {l : List α} {x : α} : x ∈ isort lt l ↔ x ∈ l := (isort_ok O l).2.perm.mem_iff
section
variable {K : PySem.W.Frag} {ρ : Pl} {H : Hp}
theorem keysD_ok : ∀ {ds : List D} {vs : List V} {ks : List Key}, RelDs K ρ H ds vs → keysD ds = some ks → vs = ks.map kV
  | [], _, _, r, e => by cases r; cases e; rfl
  | d :: ds, _, ks, r, e => by
    cases r with
    | cons r1 r2 =>
      unfold keysD at e
      split at e
      · rename_i k ks' e1 e2
        cases e
        rw [keysD_ok r2 e2, keyD_ok r1 e1]; rfl
      · cases e
/-- value by value: the data, what the heap tracks, what the machine holds -/
structure Tri (K : PySem.W.Frag) (ρ : Pl) (H : Hp) (t : D × V × Value) : Prop where
  d : RelD K ρ H t.1 t.2.1
  v : RelV t.2.1 t.2.2
theorem tri_of : ∀ {ds : List D} {vs : List V} {us : List Value}, RelDs K ρ H ds vs → Vals vs us → ∃ T : List (D × V × Value), T.map (·.1) = ds ∧ T.map (·.2.1) = vs ∧ T.map (·.2.2) = us ∧ ∀ t ∈ T, Tri K ρ H t
  | [], _, _, r, q => by cases r; cases q; exact ⟨[], rfl, rfl, rfl, fun _ h => by cases h⟩
  | d :: ds, _, _, r, q => by
    cases r with
    | cons r1 r2 =>
      cases q with
      | cons q1 q2 =>
        obtain ⟨T, h1, h2, h3, h4⟩ := tri_of r2 q2
        refine ⟨(d, _, _) :: T, by rw [List.map_cons, h1], by rw [List.map_cons, h2], by rw [List.map_cons, h3], fun t ht => ?_⟩
        rcases List.mem_cons.mp ht with rfl | ht
        · exact ⟨r1, q1⟩
        · exact h4 t ht
theorem tri_back : ∀ {T : List (D × V × Value)}, (∀ t ∈ T, Tri K ρ H t) → RelDs K ρ H (T.map (·.1)) (T.map (·.2.1)) ∧ Vals (T.map (·.2.1)) (T.map (·.2.2))
  | [], _ => ⟨.nil, .nil⟩
  | t :: T, h => by
    obtain ⟨h1, h2⟩ := tri_back (T := T) fun x hx => h x (List.mem_cons_of_mem _ hx)
    have := h t List.mem_cons_self
    exact ⟨.cons this.d h1, .cons this.v h2⟩
end
section
variable {X : Cx}
theorem kt_of {pins : List (Addr × Obj)} {σ : L2.St} {H : Hp} {s : Shared} {ρ : Pl} (I : L2.Inv X pins σ H s) {t : D × V × Value} (r : Tri X.K ρ H t) (h : (tupKeys t.1).isSome = true) : IsKT s.heap t.2.2 (tk t.1) := by
  obtain ⟨d, v, u⟩ := t
  obtain ⟨rd, rv⟩ := r
  obtain ⟨ks, hk⟩ := Option.isSome_iff_exists.mp h
  have e : tk d = ks := by unfold tk; rw [show tupKeys d = some ks from hk]; rfl
  show IsKT s.heap u (tk d)
  rw [e]
  cases d with
  | tup xs =>
    obtain ⟨a, vs, e1, h1, h2⟩ := tup_ok rd
    cases e1
    obtain rfl : u = Value.ref a := rv
    obtain ⟨its, r, ⟨o, ho, hc, n, hd⟩, _⟩ := I.tuple h1
    have := keysD_ok h2 hk
    subst this
    exact ⟨a, o, _, n, rfl, ho, hc, hd, by simpa using r⟩
  | _ => cases hk
theorem cd_sorted : CallD X (.builtin "sorted") sortedD := by
  intro pins s σ H vs us Q I rx q
  obtain ⟨ρ, st, ds, rs, rd, q⟩ := q
  unfold sortedD at q
  split at q
  · rename_i d st' e
    split at e
    · rename_i x
      split at e
      · rename_i xs hx
        split at e
        · rename_i hs
          cases e
          obtain ⟨v, rfl, r1⟩ := rd.one
          obtain ⟨a, ws, rfl, h1, h2⟩ := seqL_ok rs r1 hx
          obtain ⟨u, rfl, ru⟩ := vals1 rx
          obtain rfl : u = Value.ref a := ru
          obtain ⟨its, rv, hl, hz⟩ := I.list h1
          obtain ⟨T, t1, t2, t3, t4⟩ := tri_of h2 rv
          have every : ∀ t ∈ T, (tupKeys t.1).isSome = true := fun t ht => by
            rcases sortable_ok hs with h | ⟨b, sh, h⟩
            · rw [h] at t1
              rw [List.map_eq_nil_iff.mp t1] at ht
              cases ht
            · exact (h t.1 (by rw [← t1]; exact List.mem_map_of_mem ht)).1
          have look : ∀ t ∈ T, keysAt s.heap t.2.2 = tk t.1 := fun t ht => (kt_of I (t4 t ht) (every t ht)).keys
          have O := swo_key (keysAt s.heap)
          have OT := swo_key fun t : D × V × Value => keysAt s.heap t.2.2
          refine sorted_ord O hl.isList (by rw [← rv.length]; exact hz) (fun h2' h₁ a' ha kk => ?_) fun out hsd hsb => ?_
          · rcases sortable_ok hs with h | ⟨b, sh, h⟩
            · exfalso
              rw [h] at t1
              rw [← t3, List.map_eq_nil_iff.mp t1] at h2'
              simp at h2'
            · refine kt_sortable (s := { s with heap := h₁ }) (b := b) (sh := sh) (by omega) (fun v hv => ?_) fun o e => ?_
              · rw [← t3] at hv
                obtain ⟨t, ht, rfl⟩ := List.mem_map.mp hv
                rw [look t ht]
                exact ⟨(kt_of I (t4 t ht) (every t ht)).keeps fun b o e _ => (kk b o e).2, (h t.1 (by rw [← t1]; exact List.mem_map_of_mem ht)).2⟩
              · have e' : some o = some (seqObj "list" its.toArray 0) := e.symm.trans ha
                cases e'
                intro c
                exact absurd (Value.type.inj c) (by decide)
          · have hT := isort_ok OT T
            have eo : out = (isort (fun t u : D × V × Value => lexK (keysAt s.heap t.2.2) (keysAt s.heap u.2.2)) T).map (·.2.2) := by
              refine stb_uniq O hsd (srtd_map (lt := fun v u => lexK (keysAt s.heap v) (keysAt s.heap u)) hT.1) (hsb.trans (Stb.symm ?_))
              have := Stb.map O (fun t : D × V × Value => t.2.2) hT.2
              rw [t3] at this
              exact this
            have ed : isort (fun x y => lexK (tk x) (tk y)) xs = (isort (fun t u : D × V × Value => lexK (keysAt s.heap t.2.2) (keysAt s.heap u.2.2)) T).map (·.1) := by
              rw [← t1]
              refine (isort_map (lt := fun x y => lexK (tk x) (tk y)) (fun t : D × V × Value => t.1) T []).trans (congrArg (List.map fun t : D × V × Value => t.1) ?_)
              exact isort_congr (P := (· ∈ T)) (fun x y hx hy => by rw [look x hx, look y hy]) T [] (fun x hx => hx) fun x hx => by cases hx
            have every4 : ∀ t ∈ isort (fun t u : D × V × Value => lexK (keysAt s.heap t.2.2) (keysAt s.heap u.2.2)) T, Tri X.K ρ H t := fun t ht => t4 t ((isort_mem OT).mp ht)
            obtain ⟨b1, b2⟩ := tri_back every4
            rw [← ed] at b1
            rw [← eo] at b2
            obtain ⟨n, hn⟩ := sortedAll_at s.heap its out.toArray
            have np : H (s.heap.objs.size + 1) = none := I.hok.fresh (Nat.le_succ _)
            refine ⟨.ref (s.heap.objs.size + 1), upd H (s.heap.objs.size + 1) (.lst _), I.laid (t' := s.toks) (fun b o e => sortedAll_old e) (Nat.le_succ _) ⟨?_, out, n, b2, hn⟩, rfl, q ρ _ _ (Ext.new rs np) (rs.new np) (new_lst rs np b1)⟩
            rw [List.length_map, isort_len OT, ← List.length_map (f := fun t : D × V × Value => t.2.1), t2]
            exact hz
        · cases e
      · cases e
    · cases e
  · exact q.elim
end
end DL
end
section
/-! DL13: the evaluator: a def's text as a function of data. -/
namespace DL
open PySem PySem.Spec PyProof.Rows L2
/-- what a name of the module holds -/
inductive GV where
  | val (d : D)
  | blt (id : String)
  | typ (T : String)
  | fn
abbrev Sem1 := List D → Store → Option (D × Store)
/-- the text around: names of the module; calls of defs, by how many are given and by keywords; which lists have numbers -/
structure EC where
  G : Str → Option GV
  cal : Str → Nat → List Str → Option Sem1
  mu : Pos → Bool
/-- a def or a block: its names by slots, its scope -/
structure SC where
  N : List Str
  sc : Scope
  fn : Str → Bool
def ixN' (N : List Str) (x : Str) : Option Nat := match N with
  | [] => none
  | y :: r => if y = x then some 0 else (ixN' r x).map (· + 1)
def isVis (k : Option NameKind) : Bool := match k with
  | some .local => true
  | some .cell => true
  | some .free => true
  | _ => false
def isLoc (k : Option NameKind) : Bool := match k with
  | some .local => true
  | some .cell => true
  | _ => false
def okName (x : Str) : Bool := !(x == ("__debug__" : Str)) && !(x == ("__classdict__" : Str)) && !decide (x = "__name__")
def fstuck {α : Type} : FF α := fun _ _ => .stuck
def sstuck : FS := fun _ _ => .stuck
/-- the slot of a name that may be read -/
def slotR (S : SC) (x : Str) : Option Nat := if isVis (S.sc.names.lookup x) && okName x then ixN' S.N x else none
/-- .. that may be stored -/
def slotW (S : SC) (x : Str) : Option Nat := if isLoc (S.sc.names.lookup x) && (S.fn x || decide (S.sc.names.lookup x = some .local)) then ixN' S.N x else none
/-- a block's names -/
def SC.blk (S : SC) (scope : Scope) : SC := ⟨S.N, relS scope S.sc, fun x => scope.names.lookup x == some .cell⟩
def kwNames : List Keyword → Option (List Str)
  | [] => some []
  | k :: r => match k.arg, kwNames r with | some n, some ns => some (n :: ns) | _, _ => none
/-- values by place and by name -/
def fapp (f g : FF (List D)) : FF (List D) := fun env st => (f env st).bind fun ds st1 => (g env st1).bind fun es st2 => .ok (ds ++ es) st2
/-- a name of the module -/
def glob (C : EC) (S : SC) (x : Str) : Option GV := if decide (S.sc.names.lookup x = some .globalImplicit) && okName x then C.G x else none
def fname (C : EC) (S : SC) (x : Str) : FF D := match slotR S x with
  | some i => fvar i
  | none => match glob C S x with
    | some (.val d) => fcon d
    | some (.typ T) => fcon (.ty T)
    | _ => fstuck
def fconst : Const → FF D
  | .none => fcon .non
  | .bool b => fcon (.bl b)
  | .int i => fcon (.int i)
  | .str x => fcon (.str x)
  | _ => fstuck
/-- the built-in functions -/
def bltD (id : String) : Option Sem1 := match id with
  | "isinstance" => some isiD
  | "len" => some lenD
  | "ord" => some ordD
  | "min" => some (min2D false)
  | "max" => some (min2D true)
  | "all" => some (allD false)
  | "any" => some (allD true)
  | "sum" => some sumD
  | "sorted" => some sortedD
  | "repr" => some reprD
  | _ => none
def tyD (m : Bool) (T : String) : Option Sem1 := match T with
  | "int" => some intD
  | "str" => some strD2
  | "list" => some (listD m)
  | "tuple" => some tupleD
  | "dict" => some dictD
  | _ => none
/-- the methods of lists, dicts, texts -/
def mthD (m : Str) (n : Nat) : Option (String × (D → Sem1)) :=
  if m = "append" then (if n = 1 then some ("list", appendD) else none) else if m = "extend" then (if n = 1 then some ("list", extendD) else none) else if m = "pop" then (if n = 1 then some ("list", popAtD) else if n = 0 then some ("list", popD) else none)
  else if m = "index" then (if n = 1 then some ("list", indexD) else none) else if m = "get" then (if n = 1 ∨ n = 2 then some ("dict", getD1) else none) else if m = "upper" then (if n = 0 then some ("str", upperD) else none) else none
def ownOf (N : List Str) : List (Str × NameKind) → List (Str × Nat)
  | [] => []
  | (y, k) :: r => if isLoc (some k) then (match ixN' N y with | some i => (y, i) :: ownOf N r | none => ownOf N r) else ownOf N r
def ctOf (S : SC) : Expr → Option CT
  | .Name x _ => (slotW S x).map .one
  | .Tuple es _ _ => (slots es).map .tup
  | _ => none
where slots : List Expr → Option (List Nat)
  | [] => some []
  | .Name x _ :: r => match slotW S x, slots r with | some i, some is => some (i :: is) | _, _ => none
  | _ => none
/-- two or three plain names from as many values: stored at once; none: the machine's own way is not known -/
def swp (ts vs : List Expr) (sc : Scope) : Option (Option (List Str)) :=
  if !(ts.length == 2 || ts.length == 3) || vs.length != ts.length then some none else
  if vs.any PySem.W.isStarred then some none else
  let names := ts.filterMap fun
    | .Name id pos => if sc.names.lookup id == some .local && pos.line == (ts.head?.map (·.pos.line)).getD 0 then some id else none
    | _ => none
  if names.length != ts.length || names.eraseDups.length != names.length then some none else
  if vs.all (foldedForSure 8) then some none else if vs.all (constantsAlone 8) then none else some (some names)
/-- list(range(..)) -/
def rgArgs (C : EC) (S : SC) (x : Str) (T : String) (args : List Expr) : Option (Expr × Option Expr) := match args with
  | [.Call (.Name y _) as [] _] => if decide (x = "list") && decide (T = "list") && decide (y = "range") && starless as then (match glob C S y, as with
    | some (.typ "range"), [a] => some (a, none)
    | some (.typ "range"), [a, b] => some (a, some b)
    | _, _ => none) else none
  | _ => none
mutual
def ev (C : EC) (S : SC) : Nat → Expr → FF D
  | 0, _ => fstuck
  | n + 1, e => match e with
    | .Name x _ => fname C S x
    | .Constant c _ _ => fconst c
    | .BinOp a op b _ => fbin (binD2 op) (ev C S n a) (ev C S n b)
    | .UnaryOp .Not a _ => fnotV (ev C S n a)
    | .UnaryOp .USub a _ => fneg (ev C S n a)
    | .BoolOp op vs _ => evB C S n op vs
    | .Compare l [op] [r] _ => if behindInMarks op r then fstuck else fbin (cmpD op) (ev C S n l) (ev C S n r)
    | .Compare l [op, op'] [b, c] _ => if lastMarks [op, op'] [b, c] then fstuck else fchain (cmpD op) (cmpD op') (ev C S n l) (ev C S n b) (ev C S n c)
    | .IfExp t a b _ => fif (evT C S n t) (ev C S n a) (ev C S n b)
    | .Tuple es _ _ => if starless es then ftup (evA C S n es) else fstuck
    | .List es pos => if starless es then flst (C.mu pos) (evA C S n es) else fstuck
    | .Dict keys values _ => if keys.isEmpty then (if values.isEmpty then fdict0 else fstuck) else if decide (keys.length = values.length) && decide (keys.length ≤ 15) then (match evPs C S n keys values with | some trs => fdict trs | none => fstuck) else fstuck
    | .Subscript a (.Slice lo hi none _) pos => fslice (C.mu pos) (ev C S n a) (evP C S n lo) (evP C S n hi)
    | .Subscript a (.Slice lo hi (some k) _) pos => fstep (C.mu pos) (ev C S n a) (evP C S n lo) (evP C S n hi) (evP C S n (some k))
    | .Subscript a b _ => if PlainB b then fbin ixD (ev C S n a) (ev C S n b) else fstuck
    | .Call (.Name x _) args kws pos => if starless args then (match glob C S x, kwNames kws with
      | some .fn, some ks => match C.cal x args.length ks with | some g => fcallO g (fapp (evA C S n args) (evK C S n kws)) | none => fstuck
      | some (.blt id), some [] => if args.isEmpty then fstuck else match bltD id with | some g => fcallO g (evA C S n args) | none => fstuck
      | some (.typ T), some [] => if args.isEmpty then fstuck else match rgArgs C S x T args with
        | some (a, none) => flistRg1 (C.mu pos) (ev C S n a)
        | some (a, some b) => flistRg2 (C.mu pos) (ev C S n a) (ev C S n b)
        | none => match tyD (C.mu pos) T with | some g => fcallO g (evA C S n args) | none => fstuck
      | _, _ => fstuck) else fstuck
    | .Call (.Attribute o m apos) args [] cpos => if starless args && !superish o && (apos.endLine == cpos.line) && decide (args.length < 29) then (match mthD m args.length with
      | some (T, g) => fmeth T g (ev C S n o) (evA C S n args)
      | none => fstuck) else fstuck
    | .ListComp elt [⟨tg, iter, ifs, 0⟩] scope pos => if noSet iter && blkC S.N S.sc scope (ownOf S.N scope.names) then (match ctOf (S.blk scope) tg, ifs with
      | some c, [] => if c.vars.all fun i => decide (i ∈ (ownOf S.N scope.names).map (·.2)) then flc (C.mu pos) (evI C S n iter) c ftrue (ev C (S.blk scope) n elt) ((ownOf S.N scope.names).map (·.2)) else fstuck
      | some c, [t] => if c.vars.all fun i => decide (i ∈ (ownOf S.N scope.names).map (·.2)) then flc (C.mu pos) (evI C S n iter) c (evT C (S.blk scope) n t) (ev C (S.blk scope) n elt) ((ownOf S.N scope.names).map (·.2)) else fstuck
      | _, _ => fstuck) else fstuck
    | _ => fstuck
def evB (C : EC) (S : SC) : Nat → BoolOp → List Expr → FF D
  | 0, _, _ => fstuck
  | n + 1, op, vs => match vs with
    | [] => fstuck
    | [a] => ev C S n a
    | a :: b :: r => match op with
      | .And => fandV (ev C S n a) (evB C S n .And (b :: r))
      | .Or => forV (ev C S n a) (evB C S n .Or (b :: r))
def evT (C : EC) (S : SC) : Nat → Expr → FF Bool
  | 0, _ => fstuck
  | n + 1, e => match e with
    | .UnaryOp .Not a _ => fnot (evT C S n a)
    | .BoolOp op vs _ => evW C S n op vs
    | .Compare l [op] [r] _ => if behindInMarks op r then fstuck else fbool (fbin (cmpD op) (ev C S n l) (ev C S n r))
    | .Compare l [op, op'] [b, c] _ => if lastMarks [op, op'] [b, c] then fstuck else fbool (fchain (cmpD op) (cmpD op') (ev C S n l) (ev C S n b) (ev C S n c))
    | e => if plainTest e then ftru (ev C S n e) else fstuck
def evW (C : EC) (S : SC) : Nat → BoolOp → List Expr → FF Bool
  | 0, _, _ => fstuck
  | n + 1, op, vs => match vs with
    | [] => fstuck
    | [a] => evT C S n a
    | a :: b :: r => match op with
      | .And => fand (evT C S n a) (evW C S n .And (b :: r))
      | .Or => for_ (evT C S n a) (evW C S n .Or (b :: r))
def evA (C : EC) (S : SC) : Nat → List Expr → FF (List D)
  | 0, _ => fstuck
  | n + 1, es => match es with
    | [] => fnil
    | e :: r => fcons (ev C S n e) (evA C S n r)
def evK (C : EC) (S : SC) : Nat → List Keyword → FF (List D)
  | 0, _ => fstuck
  | n + 1, es => match es with
    | [] => fnil
    | k :: r => fcons (ev C S n k.value) (evK C S n r)
def evP (C : EC) (S : SC) : Nat → Option Expr → FF (Option Int)
  | 0, _ => fstuck
  | n + 1, e => match e with
    | none => fpartN
    | some e => fpart (ev C S n e)
def evPs (C : EC) (S : SC) : Nat → List (Option Expr) → List Expr → Option (List (FF D × FF D))
  | 0, _, _ => none
  | n + 1, ks, vs => match ks, vs with
    | [], [] => some []
    | some k :: ks, v :: vs => (evPs C S n ks vs).map ((ev C S n k, ev C S n v) :: ·)
    | _, _ => none
def evI (C : EC) (S : SC) : Nat → Expr → FF Items
  | 0, _ => fstuck
  | n + 1, e => match e with
    | .Call (.Name x _) args [] _ => if decide (x = "range") then (match glob C S x, args with
        | some (.typ "range"), [a] => if PySem.W.isStarred a then fstuck else frange1 (ev C S n a)
        | some (.typ "range"), [a, b] => if PySem.W.isStarred a || PySem.W.isStarred b then fstuck else frange2 (ev C S n a) (ev C S n b)
        | _, _ => fstuck) else fitems (ev C S n e)
    | e => fitems (ev C S n e)
end
mutual
def evG (C : EC) (S : SC) : Nat → Expr → FG
  | 0, _ => fun _ _ _ => none
  | n + 1, e => match e with
    | .Name x _ => match slotW S x with | some i => gname i | none => fun _ _ _ => none
    | .Tuple es _ _ => if starless es then gtup es.length (evGs C S n es) else fun _ _ _ => none
    | .Subscript a b _ => if PlainB b then gsub (ev C S n a) (ev C S n b) else fun _ _ _ => none
    | _ => fun _ _ _ => none
def evGs (C : EC) (S : SC) : Nat → List Expr → FGs
  | 0, _ => fun _ _ _ => none
  | n + 1, es => match es with
    | [] => gnil
    | e :: r => gcons (evG C S n e) (evGs C S n r)
end
end DL
end
section
/-! DL14: what the evaluator leans on: the context, calls of defs by place and by name. -/
namespace DL
open PySem PySem.Spec PyProof.Rows L2
/-- how a def's parameters get n values by place and as many by the names ks -/
def KB (K : PySem.W.Frag) (fd : FuncData) (n : Nat) (ks ps : List Str) (perm : List Nat) : Prop :=
  ∀ (s : Shared) (us ws : List Value), K.In s.heap → us.length = n → ws.length = ks.length → BindsTo s fd ⟨us, ks.zip ws⟩ (ps.zip (pick perm (us ++ ws)))
/-- a def that may be called: g its function, of the values in their written order -/
def CalOk (X : Cx) (x : Str) (n : Nat) (ks : List Str) (g : Sem1) : Prop :=
  ∃ (f : Addr) (fd : FuncData) (ps : List Str) (k : Nat) (perm : List Nat) (g0 : Sem1), X.mg x = some (.ref f) ∧ PySem.W.keepIn X.K (.ref f) = true ∧ Room k X.A ∧ FnG X.prog X.w X.K X.mg X.base CX0 k f fd ps (spO X.K ps.length g0) ∧ KB X.K fd n ks ps perm ∧
    ∀ ds st r, g ds st = some r → ds.length = n + ks.length → (pick perm ds).length = ps.length ∧ g0 (pick perm ds) st = some r
section
variable {X : Cx} {W : WX} {a e : Expr} {es : List Expr} {kws : List Keyword} {fa : FF D} {fs fk : FF (List D)} {pos p : Pos}
abbrev DK (X : Cx) (W : WX) (kws : List Keyword) (f : FF (List D)) : Prop := PK X kws (lA X.K W f)
theorem PK.imp {t t' : TA} (h : PK X kws t) (i : ∀ σ H Q, t' σ H Q → t σ H Q) : PK X kws t' := ⟨fun pos pins s σ H Q I q => h.run pos pins s σ H Q I (i _ _ _ q)⟩
theorem dk_nil : DK X W [] fnil := PK.imp pk_nil fun σ H Q ⟨ρ, env, st, g, o⟩ => o.now g.st .nil
theorem dk_cons {k : Keyword} (he : DE X W k.value fa) (hr : DK X W kws fs) : DK X W (k :: kws) (fcons fa fs) := by
  obtain ⟨nm, e, kpos⟩ := k
  refine PK.imp (pk_cons he hr) fun σ H Q h => ?_
  obtain ⟨ρ, env, st, gd, o⟩ := h
  refine ⟨ρ, env, st, gd, (OutR.bind (R := RelD X.K) o).mono ?_⟩
  rintro v H1 ⟨ρ1, d, st1, -, e1, s1, r1, o1⟩
  refine ⟨ρ1, env, st1, gd.ext e1 s1, (OutR.bind (R := RelDs X.K) o1).mono ?_⟩
  rintro vs H2 ⟨ρ2, ds, st2, -, e2, s2, r2, o2⟩
  exact o2.now s2 (.cons (r1.ext e2) r2)
theorem kw_names : ∀ {kws : List Keyword} {ks : List Str} {env : PySem.Env} {pos : Pos}, kwNames kws = some ks → (backToKw pos (keywordEach kws env)).all (·.1.isSome) = true ∧ (backToKw pos (keywordEach kws env)).filterMap (·.1) = ks ∧ (backToKw pos (keywordEach kws env)).any (·.1.isNone) = false
  | [], _, _, _, e => by cases e; exact ⟨rfl, rfl, rfl⟩
  | ⟨nm, v, kp⟩ :: r, ks, env, pos, e => by
    unfold kwNames at e
    split at e
    · rename_i n ns e1 e2
      cases e
      cases e1
      obtain ⟨h1, h2, h3⟩ := kw_names (env := env) (pos := pos) e2
      refine ⟨?_, ?_, ?_⟩
      · show ((true : Bool) && (backToKw pos (keywordEach r env)).all (·.1.isSome)) = true
        rw [h1]; rfl
      · show n :: (backToKw pos (keywordEach r env)).filterMap (·.1) = _
        rw [h2]
      · show ((false : Bool) || (backToKw pos (keywordEach r env)).any (·.1.isNone)) = false
        rw [h3]; rfl
    · cases e
theorem kw_len : ∀ {kws : List Keyword} {ks : List Str}, kwNames kws = some ks → ks.length = kws.length
  | [], _, e => by cases e; rfl
  | ⟨nm, v, kp⟩ :: r, ks, e => by
    unfold kwNames at e
    split at e
    · rename_i n ns e1 e2
      cases e
      simp [kw_len e2]
    · cases e
theorem run_calok {n : Nat} {ks : List Str} {g : Sem1} {pins : List (Addr × Obj)} {s : Shared} {σ : L2.St} {H : Hp} {Q : VK} {us ws : List Value} {vs zs : List V} {f : Addr} {fd : FuncData} {ps : List Str} {k : Nat} {perm : List Nat} {g0 : Sem1} (hr : Room k X.A)
    (F : FnG X.prog X.w X.K X.mg X.base CX0 k f fd ps (spO X.K ps.length g0)) (hb : KB X.K fd n ks ps perm) (hg0 : ∀ ds st r, g ds st = some r → ds.length = n + ks.length → (pick perm ds).length = ps.length ∧ g0 (pick perm ds) st = some r) (hgd : X.A.guards = some [])
    (I : L2.Inv X pins σ H s) (r : Vals vs us) (rz : Vals zs ws) (hn : us.length = n) (hk : ws.length = ks.length)
    (h : rD X.K g (vs ++ zs) H Q) : wpAny (model X.prog X.w) X.A (call (.ref f) us (ks.zip ws)) (EP X pins σ Q) X.xe s := by
  obtain ⟨ρ, st, ds, rs, rd, q⟩ := h
  cases e : g ds st with
  | none => rw [e] at q; exact q.elim
  | some p =>
    rw [e] at q
    have hl : ds.length = n + ks.length := by rw [rd.length, List.length_append, ← hn, ← hk, r.length, rz.length]
    obtain ⟨h1, h2⟩ := hg0 ds st p e hl
    have rp := rd.pick perm
    have rr : Vals (vs ++ zs) (us ++ ws) := by
      clear rd rp q hl h1 h2 e hn hk
      induction r with
      | nil => exact rz
      | cons a _ ih => exact .cons a ih
    refine callG F hr hgd I (args := ⟨us, ks.zip ws⟩) (hb s us ws I.kIn hn hk) (Vals.pick rr perm) ⟨?_, ρ, st, _, rs, rp, ?_⟩
    · rw [← rp.length]; exact h1
    · rw [h2]; exact q
/-- arguments as many as are written -/
def LenF (fs : FF (List D)) (n : Nat) : Prop := ∀ env st ds st1, fs env st = .ok ds st1 → ds.length = n
theorem lenF_nil : LenF fnil 0 := fun env st ds st1 h => by cases h; rfl
theorem lenF_cons {n : Nat} (h : LenF fs n) : LenF (fcons fa fs) (n + 1) := fun env st ds st1 e => by
  unfold fcons at e
  cases h1 : fa env st with
  | ok d st2 =>
    rw [h1] at e
    simp only [Res.bind] at e
    cases h2 : fs env st2 with
    | ok ds2 st3 =>
      rw [h2] at e
      simp only [Res.ok.injEq] at e
      obtain ⟨rfl, rfl⟩ := e
      simp [h env st2 ds2 st3 h2]
    | exc x st3 => rw [h2] at e; cases e
    | stuck => rw [h2] at e; cases e
  | exc x st2 => rw [h1] at e; cases e
  | stuck => rw [h1] at e; cases e
theorem fcall_app {g : Sem1} (fs fk : FF (List D)) (env : Env') (st : Store) : fcallO g (fapp fs fk) env st = (fs env st).bind fun ds st1 => (fk env st1).bind fun es st2 => ofO (g (ds ++ es) st2) := by
  unfold fcallO fapp
  cases fs env st with
  | ok ds st1 =>
    simp only [Res.bind]
    cases fk env st1 <;> rfl
  | exc x st1 => rfl
  | stuck => rfl
theorem de_fn {x : Str} {n : Nat} {ks : List Str} {g : Sem1} (F : CalOk X x n ks g) (hgd : X.A.guards = some []) (hg : Gl X x) (ha : DA X W es fs) (hk : DK X W kws fk) (hst : starless es = true) (hn : kwNames kws = some ks) (h0 : es = [] → fs = fnil ∨ fs = fstuck) (la : LenF fs n) (lk : LenF fk ks.length)
    (hdb : (x == ("__debug__" : Str)) = false) : DE X W (.Call (.Name x p) es kws pos) (fcallO g (fapp fs fk)) := by
  obtain ⟨f, fd, ps, k, perm, g0, hm, hkp, hr, FG, hb, hg0⟩ := F
  refine ⟨fun pins s σ H Q I h => wpAny_Call_Name_kw (ld_glob I hg hm ?_ hdb)⟩
  obtain ⟨ρ, env, st, gd, o⟩ := h
  rw [fcall_app] at o
  obtain ⟨k1, k2, k3⟩ := kw_names (env := X.env) (pos := pos) hn
  have snd : ∀ {s1 : Shared} {H1 : Hp} {vs : List V} {us : List Value}, L2.Inv X pins σ H1 s1 → Vals vs us → (∃ ρ1 ds st1, fs env st = .ok ds st1 ∧ Ext ρ H ρ1 H1 ∧ RelSt X.K ρ1 H1 st1 ∧ RelDs X.K ρ1 H1 ds vs ∧ OutR (RelD X.K) X.K W ρ1 H1 σ ((fk env st1).bind fun es st2 => ofO (g (ds ++ es) st2)) Q) →
      wpAny (model X.prog X.w) X.A (evalAll ((backToKw pos (keywordEach kws X.env)).map (·.2))) (fun ks' s₂ => X.K.In s₂.heap ∧ wpAny (model X.prog X.w) X.A (call (.ref f) us (((backToKw pos (keywordEach kws X.env)).filterMap (·.1)).zip ks')) (EP X pins σ Q) X.xe s₂) X.xe s1 := by
    rintro s1 H1 vs us I1 r1 ⟨ρ1, ds, st1, e0, e1, s1', rd1, o1⟩
    refine thn (hk.run pos pins s1 σ H1 _ I1 ⟨ρ1, env, st1, gd.ext e1 s1', OutR.bind (R := RelDs X.K) o1⟩) ?_
    rintro ws s2 ⟨zs, H2, I2, rz, ρ2, es2, st2, e2, e3, s2', rd2, o2⟩
    refine ⟨I2.kIn, ?_⟩
    rw [k2]
    refine run_calok hr FG hb hg0 hgd I2 r1 rz (by rw [← r1.length, ← rd1.length]; exact la _ _ _ _ e0) (by rw [← rz.length, ← rd2.length]; exact lk _ _ _ _ e2) ⟨ρ2, st2, ds ++ es2, s2', (rd1.ext e3).append rd2, ?_⟩
    cases hh : g (ds ++ es2) st2 with
    | none => rw [hh] at o2; exact o2.elim
    | some q => rw [hh] at o2; exact o2
  cases es with
  | nil =>
    rcases h0 rfl with h0 | h0 <;> subst h0
    rotate_left
    · exact o.elim
    exact PySem.W.callWith_KW0 (h₀ := X.base) (first := []) I.ok.mod.kin hkp k1 (snd I .nil ⟨ρ, [], st, rfl, Ext.refl, gd.st, .nil, o⟩) (by rw [k3]; rfl)
  | cons a es =>
    unfold starless at hst
    rw [List.all_cons, Bool.and_eq_true, Bool.not_eq_true'] at hst
    refine PySem.W.callWith_KW (h₀ := X.base) (first := []) I.ok.mod.kin hkp k1 (thn (ha.run pos pins s σ H _ I ⟨ρ, env, st, gd, OutR.bind (R := RelDs X.K) o⟩) ?_) ?_ (star_plain hst.1)
    · rintro us s1 ⟨vs, H1, I1, r1, q⟩
      exact snd I1 r1 q
    · rw [star_plain hst.1, k3, Bool.or_false]
      show ((false : Bool) || (backTo pos (starEach es X.env)).any (·.1)) = false
      rw [plain_star hst.2]; rfl
end
end DL
end
section
/-! DL15: the evaluator is right. -/
namespace DL
open PySem PySem.Spec PyProof.Rows L2
/-- what a module's name stands for -/
def GOk (X : Cx) (x : Str) : GV → Prop
  | .val d => ∃ v u, X.mg x = some u ∧ RelV v u ∧ ∀ ρ H, RelD X.K ρ H d v
  | .blt id => X.mg x = none ∧ bootBuiltins x = some (.builtin id)
  | .typ T => X.mg x = none ∧ bootBuiltins x = some (.type T)
  | .fn => True
structure CtxOk (C : EC) (S : SC) (X : Cx) : Prop where
  N : X.N = S.N
  nd : S.N.Nodup
  sc : X.env.scope = S.sc
  kind : S.sc.kind = .function
  fn : X.fn = S.fn
  calm : X.calm = true
  gd : X.A.guards = some []
  un : X.A.units + 80 < cLine
  xe : X.xe = fun _ _ => False
  glob : ∀ x v, C.G x = some v → GOk X x v
  cal : ∀ x n ks g, C.cal x n ks = some g → CalOk X x n ks g
theorem CtxOk.blk {C : EC} {S : SC} {X : Cx} (h : CtxOk C S X) {scope : Scope} (hk : scope.kind = .function) (s : Shared) (H : Hp) (A : Addr) (cl : List (Str × Addr)) (fp : List Addr) : CtxOk C (S.blk scope) (X.blk s H scope (compEnvC scope cl A X.env) fp) where
  N := h.N
  nd := h.nd
  sc := by
    show relS scope X.env.scope = relS scope S.sc
    rw [h.sc]
  kind := by show (relS scope S.sc).kind = _; exact hk
  fn := rfl
  calm := h.calm
  gd := h.gd
  un := h.un
  xe := rfl
  glob := h.glob
  cal := h.cal
theorem CtxOk.own {C : EC} {S : SC} {X : Cx} (h : CtxOk C S X) : PassesOwn (model X.prog X.w) X.A X.env X.xe := by rw [h.xe]; exact .never
theorem ixN'_ok : ∀ {N : List Str} {x : Str} {i : Nat}, ixN' N x = some i → N[i]? = some x
  | [], _, _, h => by cases h
  | y :: r, x, i, h => by
    unfold ixN' at h
    split at h
    · rename_i e
      cases h; subst e; rfl
    · rw [Option.map_eq_some_iff] at h
      obtain ⟨j, h1, rfl⟩ := h
      simpa using ixN'_ok h1
section
variable {C : EC} {S : SC} {X : Cx} {W : WX} {x : Str} {i : Nat} {p : Pos}
theorem isLoc_ok {k : Option NameKind} (h : isLoc k = true) : k = some .local ∨ k = some .cell := by
  unfold isLoc at h; split at h <;> first | exact .inl rfl | exact .inr rfl | cases h
theorem isVis_ok {k : Option NameKind} (h : isVis k = true) : k = some .local ∨ k = some .cell ∨ k = some .free := by
  unfold isVis at h; split at h <;> first | exact .inl rfl | exact .inr (.inl rfl) | exact .inr (.inr rfl) | cases h
theorem okName_ok (h : okName x = true) : (x == ("__debug__" : Str)) = false ∧ (x == ("__classdict__" : Str)) = false ∧ x ≠ "__name__" := by
  unfold okName at h
  simp only [Bool.and_eq_true, Bool.not_eq_true', decide_eq_false_iff_not] at h
  exact ⟨h.1.1, h.1.2, h.2⟩
theorem slotR_ok (c : CtxOk C S X) (h : slotR S x = some i) : X.N[i]? = some x ∧ Vis X.env.scope x ∧ (x == ("__debug__" : Str)) = false ∧ (x == ("__classdict__" : Str)) = false := by
  unfold slotR at h
  split at h
  · rename_i q
    rw [Bool.and_eq_true] at q
    obtain ⟨h1, h2, -⟩ := okName_ok q.2
    exact ⟨by rw [c.N]; exact ixN'_ok h, by rw [c.sc]; exact isVis_ok q.1, h1, h2⟩
  · cases h
theorem slotW_ok (c : CtxOk C S X) (h : slotW S x = some i) : X.N[i]? = some x ∧ Loc X.env.scope x ∧ (X.fn x = true ∨ X.env.scope.names.lookup x = some .local) := by
  unfold slotW at h
  split at h
  · rename_i q
    simp only [Bool.and_eq_true, Bool.or_eq_true, decide_eq_true_eq] at q
    exact ⟨by rw [c.N]; exact ixN'_ok h, by rw [c.sc]; exact isLoc_ok q.1, by rw [c.fn, c.sc]; exact q.2⟩
  · cases h
theorem glob_ok (c : CtxOk C S X) {v : GV} (h : glob C S x = some v) : Gl X x ∧ GOk X x v ∧ (x == ("__debug__" : Str)) = false ∧ x ≠ "__name__" := by
  unfold glob at h
  split at h
  · rename_i q
    rw [Bool.and_eq_true, decide_eq_true_eq] at q
    obtain ⟨h1, h2, h3⟩ := okName_ok q.2
    exact ⟨by show X.env.scope.names.lookup x = _; rw [c.sc]; exact q.1, c.glob x v h, h1, h3⟩
  · cases h
theorem de_stuck {e : Expr} : DE X W e fstuck := ⟨fun _ _ _ _ _ _ ⟨_, _, _, _, o⟩ => o.elim⟩
theorem dt_stuck {e : Expr} : DT X W e fstuck := ⟨fun _ _ _ _ _ _ ⟨_, _, _, _, o⟩ => o.elim⟩
theorem dw_stuck {e : Expr} : DW X W e fstuck := ⟨fun _ _ _ _ _ _ _ ⟨_, _, _, _, o⟩ => o.elim⟩
theorem da_stuck {es : List Expr} : DA X W es fstuck := ⟨fun _ _ _ _ _ _ _ ⟨_, _, _, _, o⟩ => o.elim⟩
theorem dk_stuck {es : List Keyword} : DK X W es fstuck := ⟨fun _ _ _ _ _ _ _ ⟨_, _, _, _, o⟩ => o.elim⟩
theorem dp_stuck {e : Option Expr} : DP X W e fstuck := ⟨fun _ _ _ _ _ _ ⟨_, _, _, _, o⟩ => o.elim⟩
theorem di_stuck {tg e : Expr} : DI X W tg e fstuck := ⟨fun _ _ _ _ _ _ ⟨_, _, _, _, o⟩ => o.elim⟩
theorem ds_stuck {s : Stmt} : DS X W s sstuck := ⟨fun _ _ _ _ _ _ ⟨_, _, _, _, o⟩ => o.elim⟩
theorem dss_stuck {s : List Stmt} : DSs X W s sstuck := ⟨fun _ _ _ _ _ _ ⟨_, _, _, _, o⟩ => o.elim⟩
theorem dg_none {e : Expr} : DG X e (fun _ _ _ => none) := ⟨fun _ _ _ _ _ _ _ _ _ ⟨_, _, _, _, _, _, o⟩ => o.elim⟩
theorem dgs_none {e : List Expr} : DGs X e (fun _ _ _ => none) := ⟨fun _ _ _ _ _ _ _ _ _ ⟨_, _, _, _, _, _, o⟩ => o.elim⟩
theorem de_name (c : CtxOk C S X) : DE X W (.Name x p) (fname C S x) := by
  unfold fname
  split
  · rename_i i h
    obtain ⟨h1, h2, h3, h4⟩ := slotR_ok c h
    exact de_var h1 h2 h3 h4
  · split
    · rename_i d h
      obtain ⟨h1, ⟨v, u, h2, h3, h4⟩, h5, h6⟩ := glob_ok c h
      exact de_con (pe_glob h1 h2 h3 h5) h4
    · rename_i T h
      obtain ⟨h1, ⟨h2, h3⟩, h5, h6⟩ := glob_ok c h
      exact de_con (pe_bltn (v := .ty T) h1 h2 h3 rfl h6 h5) fun _ _ => .ty T
    · exact de_stuck
theorem de_const {k : Const} {j} : DE X W (.Constant k j p) (fconst k) := by
  unfold fconst
  split
  · exact de_non
  · exact de_bl
  · exact de_int
  · exact de_str
  · exact de_stuck
theorem blt_ok (c : CtxOk C S X) {id : String} {g : Sem1} (h : bltD id = some g) : CallD X (.builtin id) g := by
  unfold bltD at h
  split at h <;> cases h
  · exact cd_isi
  · exact cd_len
  · exact cd_ord
  · exact cd_min2 c.calm
  · exact cd_max2 c.calm
  · exact cd_all c.calm
  · exact cd_any c.calm
  · exact cd_sum c.calm
  · exact cd_sorted
  · exact cd_repr c.gd c.un
theorem ty_ok (c : CtxOk C S X) {m : Bool} {T : String} {g : Sem1} (h : tyD m T = some g) : CallD X (.type T) g := by
  unfold tyD at h
  split at h <;> cases h
  · exact cd_int
  · exact cd_str2
  · exact cd_list m
  · exact cd_tuple
  · exact cd_dict c.calm
theorem own_vars {N : List Str} : ∀ {names : List (Str × NameKind)}, True := trivial
end
end DL
end
section
/-! DL16: the evaluator of expressions is right. -/
namespace DL
open PySem PySem.Spec PyProof.Rows L2
structure EvOk (C : EC) (n : Nat) : Prop where
  e : ∀ {S : SC} {X : Cx} (e : Expr), CtxOk C S X → DE X WF e (ev C S n e)
  b : ∀ {S : SC} {X : Cx} (op : BoolOp) (vs : List Expr) (p : Pos), CtxOk C S X → DE X WF (.BoolOp op vs p) (evB C S n op vs)
  t : ∀ {S : SC} {X : Cx} (e : Expr), CtxOk C S X → DT X WF e (evT C S n e)
  w : ∀ {S : SC} {X : Cx} (op : BoolOp) (vs : List Expr) (p : Pos), CtxOk C S X → DW X WF (.BoolOp op vs p) (evW C S n op vs)
  a : ∀ {S : SC} {X : Cx} (es : List Expr), CtxOk C S X → starless es = true → DA X WF es (evA C S n es)
  al : ∀ {S : SC} (es : List Expr), LenF (evA C S n es) es.length
  k : ∀ {S : SC} {X : Cx} (es : List Keyword), CtxOk C S X → DK X WF es (evK C S n es)
  kl : ∀ {S : SC} (es : List Keyword), LenF (evK C S n es) es.length
  p : ∀ {S : SC} {X : Cx} (e : Option Expr), CtxOk C S X → DP X WF e (evP C S n e)
  ps : ∀ {S : SC} {X : Cx} (ks : List (Option Expr)) (vs : List Expr) (trs : List (FF D × FF D)) (p : Pos), CtxOk C S X → evPs C S n ks vs = some trs → PPs X p ks vs (trs.map fun q => (lE X.K WF q.1, lE X.K WF q.2)) ∧ ks.all (·.isSome) = true
  i : ∀ {S : SC} {X : Cx} (tg e : Expr), CtxOk C S X → DI X WF tg e (evI C S n e)
theorem lenF_stuck {n : Nat} : LenF fstuck n := fun _ _ _ _ h => by cases h
theorem ev0 (C : EC) : EvOk C 0 where
  e := fun e c => by unfold ev; exact de_stuck
  b := fun op vs p c => by unfold evB; exact de_stuck
  t := fun e c => by unfold evT; exact dt_stuck
  w := fun op vs p c => by unfold evW; exact dw_stuck
  a := fun es c _ => by unfold evA; exact da_stuck
  al := fun es => by unfold evA; exact lenF_stuck
  k := fun es c => by unfold evK; exact dk_stuck
  kl := fun es => by unfold evK; exact lenF_stuck
  p := fun e c => by unfold evP; exact dp_stuck
  ps := fun ks vs trs p c h => by unfold evPs at h; cases h
  i := fun tg e c => by unfold evI; exact di_stuck
section
variable {C : EC} {S : SC} {X : Cx} {n : Nat}
theorem blk_kind {N : List Str} {sc scope : Scope} {own : List (Str × Nat)} (h : blkC N sc scope own = true) : scope.kind = .function := (blkOk_by h).kind
theorem slotsW_ok (c : CtxOk C S X) : ∀ {es : List Expr} {is : List Nat}, ctOf.slots S es = some is → PGs X es (gNames is) ∧ starless es = true ∧ is.length = es.length
  | [], is, h => by
    unfold ctOf.slots at h; cases h; exact ⟨pgs_nil, rfl, rfl⟩
  | e :: r, is, h => by
    unfold ctOf.slots at h
    split at h
    · rename_i h0; cases h0
    · rename_i x p r' h0
      cases h0
      split at h
      · rename_i i is' h1 h2
        cases h
        obtain ⟨q1, q2, q3⟩ := slotsW_ok c h2
        obtain ⟨w1, w2, w3⟩ := slotW_ok c h1
        refine ⟨pgs_cons (pg_name (by rw [c.N]; exact c.nd) w1 w2 w3) q1 rfl, ?_, by simp [q3]⟩
        unfold starless at q2 ⊢
        rw [List.all_cons, q2]; rfl
      · cases h
    · cases h
theorem ctOf_ok (c : CtxOk C S X) {tg : Expr} {ct : CT} (h : ctOf S tg = some ct) : PG X tg (gCT X.K ct) := by
  unfold ctOf at h
  split at h
  · rw [Option.map_eq_some_iff] at h
    obtain ⟨i, h1, rfl⟩ := h
    obtain ⟨w1, w2, w3⟩ := slotW_ok c h1
    exact pg_name (by rw [c.N]; exact c.nd) w1 w2 w3
  · rw [Option.map_eq_some_iff] at h
    obtain ⟨is, h1, rfl⟩ := h
    obtain ⟨q1, q2, q3⟩ := slotsW_ok c h1
    show PG X _ (gTup X.K is.length (gNames is))
    rw [q3]
    exact pg_tup c.calm q1 (assignEach_len q2).1 (assignEach_len q2).2
  · cases h
end
end DL
end
section
/-! DL17: the evaluator of expressions is right: one step more. -/
namespace DL
open PySem PySem.Spec PyProof.Rows L2
section
variable {C : EC} {S : SC} {X : Cx} {n : Nat}
theorem meth_ok (c : CtxOk C S X) {m : Str} {k : Nat} {T : String} {g : D → Sem1} (h : mthD m k = some (T, g)) :
    ∃ id, PlainAttrs T ∧ Slot T m id ∧ typeOf (.builtin id) = pure (.type "method_descriptor") ∧ (T = "str" ∨ T = "list" ∨ T = "dict") ∧ MtD X id g ∧ (k = 0 ∨ k = 1 ∨ k = 2) := by
  unfold mthD at h
  split at h
  · rename_i e; subst e
    split at h <;> cases h
    rename_i e; subst e
    exact ⟨"list.append", PySem.F.plainAttrs_list, PySem.F.slot_list_append, PySem.F.type_list_append, .inr (.inl rfl), md_append, .inr (.inl rfl)⟩
  · split at h
    · rename_i e; subst e
      split at h <;> cases h
      rename_i e; subst e
      exact ⟨"list.extend", PySem.F.plainAttrs_list, PySem.F.slot_list_extend, PySem.F.type_list_extend, .inr (.inl rfl), md_extend, .inr (.inl rfl)⟩
    · split at h
      · rename_i e; subst e
        split at h
        · cases h
          rename_i e; subst e
          exact ⟨"list.pop", PySem.F.plainAttrs_list, PySem.F.slot_list_pop, PySem.F.type_list_pop, .inr (.inl rfl), md_popAt, .inr (.inl rfl)⟩
        · split at h <;> cases h
          rename_i e; subst e
          exact ⟨"list.pop", PySem.F.plainAttrs_list, PySem.F.slot_list_pop, PySem.F.type_list_pop, .inr (.inl rfl), md_pop, .inl rfl⟩
      · split at h
        · rename_i e; subst e
          split at h <;> cases h
          rename_i e; subst e
          exact ⟨"list.index", PySem.F.plainAttrs_list, PySem.F.slot_list_index, PySem.F.type_list_index, .inr (.inl rfl), md_index, .inr (.inl rfl)⟩
        · split at h
          · rename_i e; subst e
            split at h <;> cases h
            rename_i e
            exact ⟨"dict.get", PySem.F.plainAttrs_dict, PySem.F.slot_dict_get, PySem.F.type_dict_get, .inr (.inr rfl), md_get (by have := c.un; omega), .inr e⟩
          · split at h
            · rename_i e; subst e
              split at h <;> cases h
              rename_i e; subst e
              exact ⟨"str.upper", PySem.F.plainAttrs_str, PySem.F.slot_str_upper, PySem.F.type_str_upper, .inl rfl, md_upper, .inl rfl⟩
            · cases h
theorem ev_b (ih : EvOk C n) (op : BoolOp) (vs : List Expr) (p : Pos) (c : CtxOk C S X) : DE X WF (.BoolOp op vs p) (evB C S (n + 1) op vs) := by
  unfold evB
  split
  · exact de_stuck
  · exact de_one (ih.e _ c)
  · split
    · exact de_and (ih.e _ c) (ih.b _ _ _ c)
    · exact de_or (ih.e _ c) (ih.b _ _ _ c)
theorem ev_w (ih : EvOk C n) (op : BoolOp) (vs : List Expr) (p : Pos) (c : CtxOk C S X) : DW X WF (.BoolOp op vs p) (evW C S (n + 1) op vs) := by
  unfold evW
  split
  · exact dw_stuck
  · exact dw_one (ih.t _ c)
  · split
    · exact dw_and (ih.t _ c) (ih.w _ _ _ c)
    · exact dw_or (ih.t _ c) (ih.w _ _ _ c)
theorem starless_cons {e : Expr} {es : List Expr} (h : starless (e :: es) = true) : PySem.W.isStarred e = false ∧ starless es = true := by
  unfold starless at h ⊢
  rw [List.all_cons, Bool.and_eq_true, Bool.not_eq_true'] at h
  exact h
theorem ev_a (ih : EvOk C n) (es : List Expr) (c : CtxOk C S X) (hs : starless es = true) : DA X WF es (evA C S (n + 1) es) := by
  unfold evA
  split
  · exact da_nil
  · exact da_cons (ih.e _ c) (ih.a _ c (starless_cons hs).2) (starless_cons hs).1
theorem ev_al (ih : EvOk C n) (es : List Expr) : LenF (evA C S (n + 1) es) es.length := by
  unfold evA
  split
  · exact lenF_nil
  · exact lenF_cons (ih.al _)
theorem ev_k (ih : EvOk C n) (es : List Keyword) (c : CtxOk C S X) : DK X WF es (evK C S (n + 1) es) := by
  unfold evK
  split
  · exact dk_nil
  · exact dk_cons (ih.e _ c) (ih.k _ c)
theorem ev_kl (ih : EvOk C n) (es : List Keyword) : LenF (evK C S (n + 1) es) es.length := by
  unfold evK
  split
  · exact lenF_nil
  · exact lenF_cons (ih.kl _)
theorem ev_p (ih : EvOk C n) (e : Option Expr) (c : CtxOk C S X) : DP X WF e (evP C S (n + 1) e) := by
  unfold evP
  split
  · exact dp_none
  · exact dp_some (ih.e _ c)
theorem ev_ps (ih : EvOk C n) (ks : List (Option Expr)) (vs : List Expr) (trs : List (FF D × FF D)) (p : Pos) (c : CtxOk C S X) (h : evPs C S (n + 1) ks vs = some trs) : PPs X p ks vs (trs.map fun q => (lE X.K WF q.1, lE X.K WF q.2)) ∧ ks.all (·.isSome) = true := by
  unfold evPs at h
  split at h
  · cases h; exact ⟨pps_nil, rfl⟩
  · rw [Option.map_eq_some_iff] at h
    obtain ⟨t, h1, rfl⟩ := h
    obtain ⟨h2, h3⟩ := ih.ps _ _ _ p c h1
    exact ⟨pps_cons (ih.e _ c) (ih.e _ c) h2, by rw [List.all_cons, h3]; rfl⟩
  · cases h
theorem ev_i (ih : EvOk C n) (tg e : Expr) (c : CtxOk C S X) : DI X WF tg e (evI C S (n + 1) e) := by
  unfold evI
  split
  · rename_i x args _ _
    split
    · rename_i hx
      rw [decide_eq_true_eq] at hx
      subst hx
      split
      · rename_i a h
        obtain ⟨h1, ⟨h2, h3⟩, h5, h6⟩ := glob_ok c h
        split
        · exact di_stuck
        · rename_i hs
          exact di_range1 h1 h2 (ih.e _ c) (by simpa using hs)
      · rename_i a b h
        obtain ⟨h1, ⟨h2, h3⟩, h5, h6⟩ := glob_ok c h
        split
        · exact di_stuck
        · rename_i hs
          simp only [Bool.or_eq_true, not_or, Bool.not_eq_true] at hs
          exact di_range2 h1 h2 (ih.e _ c) (ih.e _ c) hs.1 hs.2
      · exact di_stuck
    · exact di_val (ih.e _ c)
  · exact di_val (ih.e _ c)
theorem un65 (c : CtxOk C S X) : X.A.units + 65 < cLine := by have := c.un; omega
theorem ev_t (ih : EvOk C n) (e : Expr) (c : CtxOk C S X) : DT X WF e (evT C S (n + 1) e) := by
  unfold evT
  split
  · exact dt_not (ih.t _ c)
  · exact (ih.w _ _ _ c).pt
  · split
    · exact dt_stuck
    · rename_i h
      exact dt_cmp (od_cmp (un65 c) _) (ih.e _ c) (ih.e _ c) (by simpa using h)
  · split
    · exact dt_stuck
    · rename_i h
      exact dt_chain (od_cmp (un65 c) _) (od_cmp (un65 c) _) (ih.e _ c) (ih.e _ c) (ih.e _ c) (by simpa using h)
  · split
    · rename_i h
      exact dt_tru (ih.e _ c) h
    · exact dt_stuck
end
end DL
end
section
/-! DL18: the evaluator of expressions is right: all of it. -/
namespace DL
open PySem PySem.Spec PyProof.Rows L2
section
variable {C : EC} {S : SC} {X : Cx} {n : Nat}
theorem lc_ok (ih : EvOk C n) (c : CtxOk C S X) {elt tg iter : Expr} {ifs : List Expr} {scope : Scope} {pos : Pos} {ct : CT} {tt : FF Bool} (hs : noSet iter = true) (hb : blkC S.N S.sc scope (ownOf S.N scope.names) = true) (hct : ctOf (S.blk scope) tg = some ct)
    (hv : (ct.vars.all fun i => decide (i ∈ (ownOf S.N scope.names).map (·.2))) = true) (ht : ∀ X', CtxOk C (S.blk scope) X' → PTs X' ifs (lT X'.K WF tt)) :
    DE X WF (.ListComp elt [⟨tg, iter, ifs, 0⟩] scope pos) (flc (C.mu pos) (evI C S n iter) ct tt (ev C (S.blk scope) n elt) ((ownOf S.N scope.names).map (·.2))) := by
  have hk := blk_kind hb
  refine de_lc (C.mu pos) c.calm (by rw [c.N]; exact c.nd) (ih.i _ _ c) (by rw [c.N, c.sc]; exact blkOk_by hb) (fun s H A cl fp => ctOf_ok (c.blk hk s H A cl fp) hct) (fun s H A cl fp => ht _ (c.blk hk s H A cl fp)) (fun s H A cl fp => ih.e _ (c.blk hk s H A cl fp)) hs ?_
  rw [List.all_eq_true] at hv
  exact fun i hi => by simpa using hv i hi
theorem rgArgs_ok (c : CtxOk C S X) {x : Str} {T : String} {args : List Expr} {a : Expr} {ob : Option Expr} {p pos : Pos} (hg : glob C S x = some (.typ T)) (h : rgArgs C S x T args = some (a, ob)) :
    True ∧ True ∧ True ∧ ((ob = none → ∀ (m : Bool) {fa : FF D}, DE X WF a fa → DE X WF (.Call (.Name x p) args [] pos) (flistRg1 m fa)) ∧
      ∀ b, ob = some b → ∀ (m : Bool) {fa fb : FF D}, DE X WF a fa → DE X WF b fb → DE X WF (.Call (.Name x p) args [] pos) (flistRg2 m fa fb)) := by
  refine ⟨trivial, trivial, trivial, ?_⟩
  unfold rgArgs at h
  split at h
  · rename_i y py as pr
    split at h
    · rename_i q
      simp only [Bool.and_eq_true, decide_eq_true_eq] at q
      obtain ⟨⟨⟨rfl, rfl⟩, rfl⟩, q4⟩ := q
      obtain ⟨h1, ⟨h2, h3⟩, h5, h6⟩ := glob_ok c hg
      split at h
      · rename_i a' hr
        cases h
        obtain ⟨k1, ⟨k2, k3⟩, k5, k6⟩ := glob_ok c hr
        exact ⟨fun _ m fa ha => de_listRg1 m c.calm h1 h2 k1 k2 ha (starless_cons q4).1, fun b e => (by cases e)⟩
      · rename_i a' b' hr
        cases h
        obtain ⟨k1, ⟨k2, k3⟩, k5, k6⟩ := glob_ok c hr
        refine ⟨fun e => (by cases e), fun b e m fa fb ha hb => ?_⟩
        · cases e
          exact de_listRg2 m c.calm h1 h2 k1 k2 ha hb (starless_cons q4).1 (starless_cons (starless_cons q4).2).1
      · cases h
    · cases h
  · cases h
theorem ev_e (ih : EvOk C n) (e : Expr) (c : CtxOk C S X) : DE X WF e (ev C S (n + 1) e) := by
  unfold ev
  split
  · exact de_name c
  · exact de_const
  · exact de_bin (od_bin2 _) (ih.e _ c) (ih.e _ c)
  · exact de_not (ih.e _ c)
  · exact de_neg (ih.e _ c)
  · exact ih.b _ _ _ c
  · split
    · exact de_stuck
    · rename_i h
      exact de_cmp (od_cmp (un65 c) _) (ih.e _ c) (ih.e _ c) (by simpa using h)
  · split
    · exact de_stuck
    · rename_i h
      exact de_chain (od_cmp (un65 c) _) (od_cmp (un65 c) _) (ih.e _ c) (ih.e _ c) (ih.e _ c) (by simpa using h)
  · exact de_if (ih.t _ c) (ih.e _ c) (ih.e _ c)
  · split
    · rename_i h; exact de_tup (ih.a _ c h)
    · exact de_stuck
  · split
    · rename_i h; exact de_lst _ (ih.a _ c h)
    · exact de_stuck
  · split
    · rename_i h
      split
      · rename_i h'
        cases List.isEmpty_iff.mp h
        cases List.isEmpty_iff.mp h'
        exact de_dict0
      · exact de_stuck
    · rename_i h
      split
      · rename_i h'
        simp only [Bool.and_eq_true, decide_eq_true_eq] at h'
        split
        · rename_i trs ht
          obtain ⟨h1, h2⟩ := ih.ps _ _ _ _ c ht
          exact de_dict h1 h2 h'.1 (fun z => h (by rw [z]; rfl)) h'.2
        · exact de_stuck
      · exact de_stuck
  · exact de_slice _ (ih.e _ c) (ih.p _ c) (ih.p _ c)
  · exact de_step _ (ih.e _ c) (ih.p _ c) (ih.p _ c) (ih.p _ c)
  · split
    · rename_i h
      exact de_ix (id_all (un65 c)) (ih.e _ c) (ih.e _ c) (plainIx_of h)
    · exact de_stuck
  · rename_i _ x p args kws pos
    split
    · rename_i hst
      split
      · rename_i ks hg hk
        split
        · rename_i g hc
          obtain ⟨h1, -, h5, h6⟩ := glob_ok c hg
          refine de_fn (c.cal _ _ _ _ hc) c.gd h1 (ih.a _ c hst) (ih.k _ c) hst hk (fun e => ?_) (ih.al _) (by rw [kw_len hk]; exact ih.kl _) h5
          subst e
          cases n with
          | zero => right; unfold evA; rfl
          | succ n => left; unfold evA; rfl
        · exact de_stuck
      · rename_i id hg hk
        have hkw : kws = [] := by
          have := kw_len hk
          exact List.eq_nil_of_length_eq_zero this.symm
        subst hkw
        split
        · exact de_stuck
        · rename_i hne
          split
          · rename_i g hb
            obtain ⟨h1, ⟨h2, h3⟩, h5, h6⟩ := glob_ok c hg
            cases args with
            | nil => exact absurd rfl hne
            | cons a es => exact de_callB (blt_ok c hb) h1 h2 h3 (ih.a _ c hst) h6 h5 hst
          · exact de_stuck
      · rename_i T hg hk
        have hkw : kws = [] := by
          have := kw_len hk
          exact List.eq_nil_of_length_eq_zero this.symm
        subst hkw
        split
        · exact de_stuck
        · rename_i hne
          split
          · rename_i a hr
            obtain ⟨q1, q2, q3, q4⟩ := rgArgs_ok c hg hr
            exact q4.1 rfl (C.mu _) (ih.e _ c)
          · rename_i a b hr
            obtain ⟨q1, q2, q3, q4⟩ := rgArgs_ok c hg hr
            exact q4.2 b rfl (C.mu _) (ih.e _ c) (ih.e _ c)
          · split
            · rename_i g hb
              obtain ⟨h1, ⟨h2, h3⟩, h5, h6⟩ := glob_ok c hg
              cases args with
              | nil => exact absurd rfl hne
              | cons a es => exact de_callTy (ty_ok c hb) h1 h2 h3 (ih.a _ c hst) h6 h5 hst
            · exact de_stuck
      · exact de_stuck
    · exact de_stuck
  · rename_i _ o m apos args cpos
    split
    · rename_i h
      simp only [Bool.and_eq_true, Bool.not_eq_true', decide_eq_true_eq] at h
      obtain ⟨⟨⟨h1, h2⟩, h3⟩, h4⟩ := h
      split
      · rename_i T g hm
        obtain ⟨id, pa, slot, hty, hT, mt, hk⟩ := meth_ok c hm
        cases args with
        | nil =>
          have := de_meth0 pa slot hty hT mt (ih.e o c) h2 h3
          cases n with
          | zero =>
            unfold ev
            exact ⟨fun _ _ _ _ _ _ ⟨_, _, _, _, o⟩ => o.elim⟩
          | succ k =>
            have e0 : evA C S (k + 1) [] = fnil := by unfold evA; rfl
            rw [e0]; exact this
        | cons a es => exact de_meth pa slot hty hT mt (ih.e _ c) (ih.a _ c h1) h2 h3 h1 h4
      · exact de_stuck
    · exact de_stuck
  · split
    · rename_i h
      simp only [Bool.and_eq_true] at h
      split
      · rename_i ct hc
        split
        · rename_i hv
          exact lc_ok ih c h.1 h.2 hc hv fun X' c' => dts_nil
        · exact de_stuck
      · rename_i ct t hc
        split
        · rename_i hv
          exact lc_ok ih c h.1 h.2 hc hv fun X' c' => pts_one (ih.t _ c')
        · exact de_stuck
      · exact de_stuck
    · exact de_stuck
  · exact de_stuck
theorem ev_ok (C : EC) : ∀ n, EvOk C n
  | 0 => ev0 C
  | n + 1 => have ih := ev_ok C n; ⟨ev_e ih, ev_b ih, ev_t ih, ev_w ih, ev_a ih, ev_al ih, ev_k ih, ev_kl ih, ev_p ih, ev_ps ih, ev_i ih⟩
end
end DL
end
section
/-! DL19: the evaluator of targets is right; stores at once. -/
namespace DL
open PySem PySem.Spec PyProof.Rows L2
section
variable {C : EC} {S : SC} {X : Cx} {W : WX} {n : Nat}
theorem evG_ok (C : EC) : ∀ n, (∀ {S : SC} {X : Cx} (e : Expr), CtxOk C S X → DG X e (evG C S n e)) ∧ (∀ {S : SC} {X : Cx} (es : List Expr), CtxOk C S X → starless es = true → DGs X es (evGs C S n es))
  | 0 => ⟨fun e c => by unfold evG; exact dg_none, fun es c _ => by unfold evGs; exact dgs_none⟩
  | n + 1 => by
    obtain ⟨h1, h2⟩ := evG_ok C n
    refine ⟨fun {S} {X} e c => ?_, fun {S} {X} es c hs => ?_⟩
    · unfold evG
      split
      · split
        · rename_i i h
          obtain ⟨w1, w2, w3⟩ := slotW_ok c h
          exact dg_name (by rw [c.N]; exact c.nd) w1 w2 w3
        · exact dg_none
      · split
        · rename_i h
          exact dg_tup c.calm (h2 _ c h) h
        · exact dg_none
      · rename_i a b p
        split
        · rename_i h
          refine dg_sub (W := WF) (by have := c.un; omega) ((ev_ok C n).e _ c) ((ev_ok C n).e _ c) fun v => ?_
          cases b <;> first | rfl | cases h
        · exact dg_none
      · exact dg_none
    · unfold evGs
      split
      · exact dgs_nil
      · exact dgs_cons (h1 _ c) (h2 _ c (starless_cons hs).2) (starless_cons hs).1
/-- how two or three plain names are stored, as the machine reckons it -/
theorem blk_fn (c : CtxOk C S X) : X.env.blockKind = .function := by
  unfold Env.blockKind
  rw [c.sc, c.kind]
  rfl
theorem swp_ok (c : CtxOk C S X) {ts vs : List Expr} {k k' : Nat} {p p' : Pos} {r : Option (List Str)} (h : swp ts vs S.sc = some r) : swappedStores [.Tuple ts k p] (.Tuple vs k' p') X.env = pure r := by
  have hb := blk_fn c
  have hk : ∀ id : Str, X.env.kindOf id = S.sc.names.lookup id := fun id => by show X.env.scope.names.lookup id = _; rw [c.sc]
  have hbb : (X.env.blockKind != ScopeKind.function) = false := by rw [hb]; rfl
  unfold swp at h
  unfold swappedStores
  simp only [hbb, hk, Bool.or_false]
  split at h
  · rename_i h1
    cases h
    rw [if_pos h1]
  · rename_i h1
    rw [if_neg h1]
    split at h
    · rename_i h2
      cases h
      rw [if_pos]
      exact h2
    · rename_i h2
      rw [if_neg (by exact h2)]
      dsimp only at h
      generalize hn : (List.filterMap _ ts) = names at h
      split at h
      · rename_i h3
        cases h
        rw [if_pos h3]
      · rename_i h3
        rw [if_neg h3]
        split at h
        · rename_i h4
          cases h
          rw [if_pos h4]
        · rename_i h4
          rw [if_neg h4]
          split at h
          · cases h
          · rename_i h5
            cases h
            rw [if_neg h5]
end
end DL
end
section
/-! DL20: names stored at once. -/
namespace DL
open PySem PySem.Spec PyProof.Rows L2
def FS.le (f g : FS) : Prop := ∀ env st, f env st = .stuck ∨ f env st = g env st
theorem lS_le {K : PySem.W.Frag} {W : WX} {f g : FS} (h : FS.le f g) (Dn : Ends) (σ : L2.St) (H : Hp) (q : lS K W f Dn σ H) : lS K W g Dn σ H := by
  obtain ⟨ρ, env, st, gd, o⟩ := q
  refine ⟨ρ, env, st, gd, ?_⟩
  rcases h env st with e | e
  · rw [e] at o; exact o.elim
  · rw [← e]; exact o
section
variable {C : EC} {S : SC} {X : Cx} {W : WX} {n : Nat}
theorem evGs_names : ∀ (n : Nat) (l : List (Str × Pos)) (is : List Nat) (ds : List D) (env : Env') (st : Store), l.map (fun x => slotW S x.1) = is.map some →
    evGs C S n (l.map fun x => .Name x.1 x.2) ds env st = none ∨ ∃ env', setAll is ds env = some env' ∧ evGs C S n (l.map fun x => .Name x.1 x.2) ds env st = some (env', st)
  | 0, _, _, _, _, _, _ => .inl (by unfold evGs; rfl)
  | n + 1, [], is, ds, env, st, h => by
    cases is with
    | cons _ _ => cases h
    | nil =>
      unfold evGs
      cases ds with
      | nil => exact .inr ⟨env, rfl, rfl⟩
      | cons _ _ => exact .inl rfl
  | n + 1, x :: l, is, ds, env, st, h => by
    cases is with
    | nil => cases h
    | cons i is =>
      simp only [List.map_cons, List.cons.injEq] at h
      show evGs C S (n + 1) (.Name x.1 x.2 :: l.map fun x => .Name x.1 x.2) ds env st = none ∨ _
      unfold evGs
      cases ds with
      | nil => exact .inl rfl
      | cons d ds =>
        cases n with
        | zero =>
          left
          show gcons (evG C S 0 _) _ (d :: ds) env st = none
          unfold evG
          rfl
        | succ m =>
          have e1 : evG C S (m + 1) (.Name x.1 x.2) = gname i := by
            unfold evG
            simp only [h.1]
          have := evGs_names (m + 1) l is ds (env.set i (some d)) st h.2
          rcases this with q | ⟨env', q1, q2⟩
          · left
            show gcons (evG C S (m + 1) _) _ (d :: ds) env st = none
            rw [e1]
            exact q
          · right
            refine ⟨env', q1, ?_⟩
            show gcons (evG C S (m + 1) _) _ (d :: ds) env st = _
            rw [e1]
            exact q2
/-- stores of names, as one does them: one after the other -/
theorem fasg_names (l : List (Str × Pos)) (is : List Nat) (vs : List Expr) (k k' : Nat) (p p' : Pos) (h : l.map (fun x => slotW S x.1) = is.map some) (env : Env') (st : Store) :
    fasg (ev C S n (.Tuple vs k' p')) (evG C S n (.Tuple (l.map fun x => .Name x.1 x.2) k p)) env st = .stuck ∨
    fasg (ev C S n (.Tuple vs k' p')) (evG C S n (.Tuple (l.map fun x => .Name x.1 x.2) k p)) env st = (evA C S (n - 1) vs env st).toS env fun ds st1 => match setAll is ds env with
      | some env' => .nx env' st1
      | none => .stuck := by
  cases n with
  | zero => left; unfold ev; rfl
  | succ m =>
    rw [Nat.add_sub_cancel]
    unfold ev
    by_cases hst : starless vs = true
    · simp only [hst, if_true]
      unfold fasg ftup
      cases hv : evA C S m vs env st with
      | stuck => left; rfl
      | exc x st1 => right; rfl
      | ok ds st1 =>
        simp only [Res.bind]
        by_cases hl : ds.length ≤ 16777216
        · rw [if_pos hl]
          show Opt.toS (evG C S (m + 1) (.Tuple (l.map fun x => .Name x.1 x.2) k p) (.tup ds) env st1) = .stuck ∨ Opt.toS (evG C S (m + 1) (.Tuple (l.map fun x => .Name x.1 x.2) k p) (.tup ds) env st1) = _
          unfold evG
          have hs2 : starless (l.map fun x => Expr.Name x.1 x.2) = true := by
            unfold starless
            rw [List.all_eq_true]
            intro e he
            rw [List.mem_map] at he
            obtain ⟨x, -, rfl⟩ := he
            rfl
          simp only [hs2, if_true]
          unfold gtup
          simp only
          split
          · rcases evGs_names m l is ds env st1 h with q | ⟨env', q1, q2⟩
            · left; rw [q]; rfl
            · right; rw [q2]; simp only [Res.toS, q1]; rfl
          · left; rfl
        · rw [if_neg hl]; left; rfl
    · left
      simp only [hst]
      rfl
theorem eraseDups2 {x y : Str} (h : [x, y].eraseDups.length = 2) : x ≠ y := by
  rintro rfl
  simp [List.eraseDups_cons] at h
theorem eraseDups3 {x y z : Str} (h : [x, y, z].eraseDups.length = 3) : x ≠ y ∧ x ≠ z ∧ y ≠ z := by
  refine ⟨?_, ?_, ?_⟩ <;> rintro rfl
  · by_cases hz : z = x
    · subst hz; simp [List.eraseDups_cons] at h
    · simp [List.eraseDups_cons, hz] at h
  · by_cases hz : y = x
    · subst hz; simp [List.eraseDups_cons] at h
    · simp [List.eraseDups_cons, hz] at h
  · by_cases hz : y = x
    · subst hz; simp [List.eraseDups_cons] at h
    · simp [List.eraseDups_cons, hz] at h
def isName : Expr → Bool
  | .Name _ _ => true
  | _ => false
theorem isName_ok {e : Expr} (h : isName e = true) : ∃ x p, e = .Name x p := by
  cases e <;> first | exact ⟨_, _, rfl⟩ | cases h
theorem ix_inj (c : CtxOk C S X) {x y : Str} {i j : Nat} (h1 : X.N[i]? = some x) (h2 : X.N[j]? = some y) (h : x ≠ y) : i ≠ j := by
  rintro rfl
  rw [h1] at h2
  cases h2
  exact h rfl
theorem fm_all {α β : Type} {f : α → Option β} : ∀ {l : List α}, (l.filterMap f).length = l.length → l.map f = (l.filterMap f).map some
  | [], _ => rfl
  | a :: l, h => by
    rw [List.filterMap_cons] at h ⊢
    cases e : f a with
    | none =>
      rw [e] at h
      have := List.length_filterMap_le f l
      simp only [List.length_cons] at h
      omega
    | some b =>
      rw [e] at h
      simp only [List.length_cons, Nat.add_right_cancel_iff] at h
      simp only [List.map_cons, e, fm_all h]
theorem swp_some {ts vs : List Expr} {names : List Str} (h : swp ts vs S.sc = some (some names)) : (ts.length = 2 ∨ ts.length = 3) ∧ vs.length = ts.length ∧ names.eraseDups.length = ts.length ∧
    ∃ line : Nat, ts.map (fun e => match e with
    | .Name id pos => if S.sc.names.lookup id == some .local && pos.line == line then some id else none
    | _ => none) = names.map some := by
  unfold swp at h
  split at h
  · cases h
  · rename_i h1
    split at h
    · cases h
    · dsimp only at h
      generalize (Option.map (fun x => x.pos.line) ts.head?).getD 0 = line at h
      split at h
      · cases h
      · rename_i h3
        split at h
        · cases h
        · split at h
          · cases h
          · cases h
            simp only [Bool.or_eq_true, Bool.not_eq_true', bne_iff_ne, ne_eq, not_or, Bool.not_eq_false, beq_iff_eq, Decidable.not_not] at h1 h3
            exact ⟨h1.1, h1.2, h3.2.trans h3.1, line, fm_all h3.1⟩
theorem slotW_local {x : Str} (h : S.sc.names.lookup x = some .local) {i : Nat} (hi : ixN' S.N x = some i) : slotW S x = some i := by
  unfold slotW
  rw [h]
  simp [isLoc, hi]
theorem swp_local {x y : Str} {p : Pos} {line : Nat} (h : (if S.sc.names.lookup x == some .local && p.line == line then some x else none) = some y) : x = y ∧ S.sc.names.lookup x = some .local := by
  split at h
  · rename_i q
    cases h
    simp only [Bool.and_eq_true, beq_iff_eq] at q
    exact ⟨rfl, q.1⟩
  · cases h
def slotsIn (S : SC) (ts : List Expr) : Bool := ts.all fun | .Name x _ => (ixN' S.N x).isSome | _ => false
theorem slotsIn_ok {e : Expr} {es : List Expr} (h : slotsIn S (e :: es) = true) : (∃ x p i, e = .Name x p ∧ ixN' S.N x = some i) ∧ slotsIn S es = true := by
  unfold slotsIn at h ⊢
  rw [List.all_cons, Bool.and_eq_true] at h
  refine ⟨?_, h.2⟩
  have h1 := h.1
  split at h1
  · rename_i x p
    obtain ⟨i, hi⟩ := Option.isSome_iff_exists.mp h1
    exact ⟨x, p, i, rfl, hi⟩
  · cases h1
theorem ds_swap (ih : ∀ m, EvOk C m) (c : CtxOk C S X) {ts vs : List Expr} {k k' : Nat} {p p' pos : Pos} {names : List Str} (h : swp ts vs S.sc = some (some names)) (hn : slotsIn S ts = true) (hst : starless vs = true) :
    DS X WF (.Assign [.Tuple ts k p] (.Tuple vs k' p') pos) (fasg (ev C S n (.Tuple vs k' p')) (evG C S n (.Tuple ts k p))) := by
  have hw := swp_ok c (k := k) (k' := k') (p := p) (p' := p') h
  obtain ⟨hl, hv, h2, line, h3⟩ := swp_some h
  have hN : X.N.Nodup := by rw [c.N]; exact c.nd
  rcases hl with hl | hl
  · match ts, vs, hl, hv with
    | [t1, t2], [a, b], _, _ =>
      obtain ⟨⟨x, px, i, e1, hi⟩, hn1⟩ := slotsIn_ok hn
      obtain ⟨⟨y, py, j, e2, hj⟩, -⟩ := slotsIn_ok hn1
      subst e1; subst e2
      have hlen : names.length = 2 := by have := congrArg List.length h3; simpa using this.symm
      match names, hlen, h3 with
      | [x', y'], _, h3 =>
        simp only [List.map_cons, List.map_nil, List.cons.injEq, and_true] at h3
        obtain ⟨rfl, hx⟩ := swp_local h3.1
        obtain ⟨rfl, hy⟩ := swp_local h3.2
        have hxy := eraseDups2 h2
        have i1 : X.N[i]? = some x := by rw [c.N]; exact ixN'_ok hi
        have j1 : X.N[j]? = some y := by rw [c.N]; exact ixN'_ok hj
        refine PS.imp (ds_par (fs := evA C S (n - 1) [a, b]) c.calm hN i1 j1 (ix_inj c i1 j1 hxy) (by rw [c.sc]; exact hx) (by rw [c.sc]; exact hy) ((ih (n - 1)).a _ c hst) hw) (lS_le fun env st => ?_)
        rcases fasg_names (n := n) (C := C) (S := S) [(x, px), (y, py)] [i, j] [a, b] k k' p p' (by simp [slotW_local hx hi, slotW_local hy hj]) env st with q | q
        · exact .inl q
        · right
          refine Eq.trans q ?_
          unfold fpar
          congr 1
          funext ds st1
          rcases ds with _ | ⟨d, _ | ⟨e, _ | ⟨f, ds⟩⟩⟩ <;> rfl
  · match ts, vs, hl, hv with
    | [t1, t2, t3], [a, b, d], _, _ =>
      obtain ⟨⟨x, px, i, e1, hi⟩, hn1⟩ := slotsIn_ok hn
      obtain ⟨⟨y, py, j, e2, hj⟩, hn2⟩ := slotsIn_ok hn1
      obtain ⟨⟨z, pz, l, e3, hl⟩, -⟩ := slotsIn_ok hn2
      subst e1; subst e2; subst e3
      have hlen : names.length = 3 := by have := congrArg List.length h3; simpa using this.symm
      match names, hlen, h3 with
      | [x', y', z'], _, h3 =>
        simp only [List.map_cons, List.map_nil, List.cons.injEq, and_true] at h3
        obtain ⟨rfl, hx⟩ := swp_local h3.1
        obtain ⟨rfl, hy⟩ := swp_local h3.2.1
        obtain ⟨rfl, hz⟩ := swp_local h3.2.2
        obtain ⟨hxy, hxz, hyz⟩ := eraseDups3 h2
        have i1 : X.N[i]? = some x := by rw [c.N]; exact ixN'_ok hi
        have j1 : X.N[j]? = some y := by rw [c.N]; exact ixN'_ok hj
        have l1 : X.N[l]? = some z := by rw [c.N]; exact ixN'_ok hl
        refine PS.imp (ds_par3 (fs := evA C S (n - 1) [a, b, d]) c.calm hN i1 j1 l1 (ix_inj c i1 j1 hxy) (ix_inj c i1 l1 hxz) (ix_inj c j1 l1 hyz) (by rw [c.sc]; exact hx) (by rw [c.sc]; exact hy) (by rw [c.sc]; exact hz) ((ih (n - 1)).a _ c hst) hw) (lS_le fun env st => ?_)
        rcases fasg_names (n := n) (C := C) (S := S) [(x, px), (y, py), (z, pz)] [i, j, l] [a, b, d] k k' p p' (by simp [slotW_local hx hi, slotW_local hy hj, slotW_local hz hl]) env st with q | q
        · exact .inl q
        · right
          refine Eq.trans q ?_
          unfold fpar3
          congr 1
          funext ds st1
          rcases ds with _ | ⟨d, _ | ⟨e, _ | ⟨f, _ | ⟨g, ds⟩⟩⟩⟩ <;> rfl
end
end DL
end
section
/-! DL21: the evaluator of statements, and that it is right. -/
namespace DL
open PySem PySem.Spec PyProof.Rows L2
def isTupE : Expr → Bool
  | .Tuple _ _ _ => true
  | _ => false
def isSeqE : Expr → Bool
  | .Tuple _ _ _ => true
  | .List _ _ => true
  | _ => false
def lcSwap (S : SC) (x : Str) (py pc : Pos) (scope : Scope) : Bool := (S.sc.names.lookup x == some .local) && (py.line == pc.line) && !(scope.names.any fun (n, k) => n == x && (k == .local || k == .cell))
/-- how values are stored -/
def asgOk (S : SC) (tg e : Expr) : Bool := !PySem.W.isStarred tg && (match e with
  | .Tuple vs _ _ => (match tg with
    | .Tuple ts _ _ => (match swp ts vs S.sc with
      | some none => true
      | some (some _) => slotsIn S ts && starless vs
      | none => false)
    | tg => !isSeqE tg)
  | .ListComp _ _ _ _ => (match tg with
    | .Name x _ => (slotW S x).isSome
    | _ => true)
  | e => noComp e)
mutual
def exS (C : EC) (S : SC) : Nat → Stmt → FS
  | 0, _ => sstuck
  | n + 1, s => match s with
    | .Pass _ => fskip
    | .Break _ => fun env st => .bk env st
    | .Continue _ => fun env st => .ct env st
    | .Return none _ => fun _ st => .rt .non st
    | .Return (some e) _ => fret (ev C S n e)
    | .Expr e _ => if noComp e then fdrop (ev C S n e) else sstuck
    | .If c a b _ => fifS (evT C S n c) (exSs C S n a) (exSs C S n b)
    | .Assign [tg] e _ => if asgOk S tg e then fasg (ev C S n e) (evG C S n tg) else sstuck
    | .AugAssign (.Name x _) op e _ => match slotW S x with | some i => faug i op (ev C S n e) | none => sstuck
    | .For tg iter body [] _ => if noSet iter then ffor (evI C S n iter) (evG C S n tg) (exSs C S n body) else sstuck
    | .While c body [] _ => whileL (evT C S n c) (exSs C S n body) 100000
    | .Match e cs _ => fmatch (ev C S n e) (exC C S n cs)
    | _ => sstuck
def exSs (C : EC) (S : SC) : Nat → List Stmt → FS
  | 0, _ => sstuck
  | n + 1, ss => match ss with
    | [] => fskip
    | s :: r => fseq (exS C S n s) (exSs C S n r)
def exC (C : EC) (S : SC) : Nat → List MatchCase → D → FS
  | 0, _ => fun _ => sstuck
  | n + 1, cs => match cs with
    | [] => fun _ => fskip
    | ⟨p, none, body⟩ :: r => fcase p (exSs C S n body) (exC C S n r)
    | _ => fun _ => sstuck
end
theorem sw_none1 {tg e : Expr} {env : PySem.Env} (h : isTupE e = false) : swappedStores [tg] e env = pure none := by
  cases e <;> first | (cases h; done) | (cases tg <;> rfl)
theorem sw_none2 {tg e : Expr} {env : PySem.Env} (h : isSeqE tg = false) : swappedStores [tg] e env = pure none := by
  cases tg <;> first | (cases h; done) | (cases e <;> rfl)
section
variable {C : EC} {S : SC} {X : Cx} {W : WX} {n : Nat}
theorem ds_stuckF {s : Stmt} {f : FS} (h : ∀ env st, f env st = .stuck) : DS X W s f := ⟨fun _ _ _ _ _ _ ⟨_, env, st, _, o⟩ => by rw [h env st] at o; exact o.elim⟩
theorem sw_lc (c : CtxOk C S X) {elt : Expr} {gs : List Comprehension} {scope : Scope} {pc : Pos} {tg : Expr} {l : Nat} (h : ∀ x py, tg = .Name x py → lcSwap S x py pc scope = false) : swapsWithSole [tg] (.ListComp elt gs scope pc) l X.env = pure false := by
  show swapsWith (.ListComp elt gs scope pc) (some tg) l X.env = pure false
  cases tg with
  | Name x py =>
    have h1 := h x py rfl
    have hb := blk_fn c
    have hk : X.env.kindOf x = S.sc.names.lookup x := by show X.env.scope.names.lookup x = _; rw [c.sc]
    unfold swapsWith
    simp only [hb, hk]
    refine congrArg pure ?_
    unfold lcSwap at h1
    simp only [Expr.pos]
    rw [show (ScopeKind.function == ScopeKind.function) = true from rfl, Bool.true_and]
    exact h1
  | _ => rfl
/-- name = [..] on one line -/
theorem ds_lcset (c : CtxOk C S X) {elt : Expr} {gs : List Comprehension} {scope : Scope} {pc py pos : Pos} {x : Str} (hs : (slotW S x).isSome = true) (h : lcSwap S x py pc scope = true) :
    DS X WF (.Assign [.Name x py] (.ListComp elt gs scope pc) pos) (fasg (ev C S n (.ListComp elt gs scope pc)) (evG C S n (.Name x py))) := by
  obtain ⟨i, hi⟩ := Option.isSome_iff_exists.mp hs
  cases n with
  | zero => exact ds_stuckF fun env st => by unfold ev; rfl
  | succ m =>
    have e1 : evG C S (m + 1) (.Name x py) = gname i := by unfold evG; simp only [hi]
    rw [e1]
    obtain ⟨w1, w2, w3⟩ := slotW_ok c hi
    unfold lcSwap at h
    simp only [Bool.and_eq_true, Bool.not_eq_true', beq_iff_eq] at h
    have hN : X.N.Nodup := by rw [c.N]; exact c.nd
    have hloc : X.env.scope.names.lookup x = some .local := by rw [c.sc]; exact h.1.1
    have hsw : swapsWith (.ListComp elt gs scope pc) (some (.Name x py)) pos.line X.env = pure true := sw_true (by rw [c.sc]; exact c.kind) hloc (by simpa using h.1.2) h.2
    have key : ∀ (tg iter : Expr) (ifs : List Expr) (ct : CT) (tt : FF Bool), gs = [⟨tg, iter, ifs, 0⟩] → noSet iter = true → blkC S.N S.sc scope (ownOf S.N scope.names) = true → ctOf (S.blk scope) tg = some ct →
        (ct.vars.all fun i => decide (i ∈ (ownOf S.N scope.names).map (·.2))) = true → (∀ X', CtxOk C (S.blk scope) X' → PTs X' ifs (lT X'.K WF tt)) →
        DS X WF (.Assign [.Name x py] (.ListComp elt gs scope pc) pos) (fasg (flc (C.mu pc) (evI C S m iter) ct tt (ev C (S.blk scope) m elt) ((ownOf S.N scope.names).map (·.2))) (gname i)) := by
      intro tg iter ifs ct tt hgs hs hb hct hv ht
      subst hgs
      have hk := blk_kind hb
      refine ds_setLc (C.mu pc) c.calm hN w1 hloc hsw ((ev_ok C m).i _ _ c) (by rw [c.N, c.sc]; exact blkOk_by hb) (fun s H A cl fp => ctOf_ok (c.blk hk s H A cl fp) hct) (fun s H A cl fp => ht _ (c.blk hk s H A cl fp)) (fun s H A cl fp => (ev_ok C m).e _ (c.blk hk s H A cl fp)) hs ?_
      rw [List.all_eq_true] at hv
      exact fun i hi => by simpa using hv i hi
    have stk : ∀ g, DS X WF (.Assign [.Name x py] (.ListComp elt gs scope pc) pos) (fasg fstuck g) := fun g => ds_stuckF fun env st => rfl
    unfold ev
    split <;> try exact stk _
    all_goals first | (rename_i q; cases q; done) | skip
    rename_i q
    cases q
    split
    · rename_i h'
      simp only [Bool.and_eq_true] at h'
      split
      · rename_i ct hc
        split
        · rename_i hv
          exact key _ _ _ ct ftrue rfl h'.1 h'.2 hc hv fun X' c' => dts_nil
        · exact stk _
      · rename_i ct t hc
        split
        · rename_i hv
          exact key _ _ _ ct _ rfl h'.1 h'.2 hc hv fun X' c' => pts_one ((ev_ok C m).t _ c')
        · exact stk _
      · exact stk _
    · exact stk _
end
end DL
end
section
/-! DL22: the evaluator of statements is right; a def by its text. -/
namespace DL
open PySem PySem.Spec PyProof.Rows L2
section
variable {C : EC} {S : SC} {X : Cx} {W : WX} {n : Nat}
theorem isTup_no {e : Expr} (h : ∀ vs k p, e ≠ .Tuple vs k p) : isTupE e = false := by
  cases e <;> first | rfl | exact absurd rfl (h _ _ _)
theorem ds_asgOk (c : CtxOk C S X) {tg e : Expr} {pos : Pos} (h : asgOk S tg e = true) : DS X WF (.Assign [tg] e pos) (fasg (ev C S n e) (evG C S n tg)) := by
  unfold asgOk at h
  rw [Bool.and_eq_true, Bool.not_eq_true'] at h
  obtain ⟨h1, h⟩ := h
  have he := (ev_ok C n).e e c
  have hg := (evG_ok C n).1 tg c
  split at h
  · split at h
    · split at h
      · rename_i hs
        exact ds_asg he hg rfl (swp_ok c hs) h1
      · rename_i hs
        rw [Bool.and_eq_true] at h
        exact ds_swap (ev_ok C) c hs h.1 h.2
      · cases h
    · rw [Bool.not_eq_true'] at h
      exact ds_asg he hg rfl (sw_none2 h) h1
  · rename_i elt gs scope pc
    by_cases hx : ∃ x py, tg = .Name x py ∧ lcSwap S x py pc scope = true
    · obtain ⟨x, py, rfl, hl⟩ := hx
      exact ds_lcset c h hl
    · refine ds_asg he hg (sw_lc c fun x py e => ?_) (sw_none1 rfl) h1
      cases hl : lcSwap S x py pc scope with
      | false => rfl
      | true => exact absurd ⟨x, py, e, hl⟩ hx
  · rename_i e' hn _
    exact ds_asg he hg (swaps_no h) (sw_none1 (isTup_no fun vs k p q => by first | exact hn _ _ _ q | (subst q; exact hn _ _ _ rfl))) h1
theorem exS_ok (C : EC) : ∀ n, (∀ {S : SC} {X : Cx} (s : Stmt), CtxOk C S X → DS X WF s (exS C S n s)) ∧ (∀ {S : SC} {X : Cx} (ss : List Stmt), CtxOk C S X → DSs X WF ss (exSs C S n ss)) ∧ (∀ {S : SC} {X : Cx} (cs : List MatchCase), CtxOk C S X → MC X WF cs (exC C S n cs))
  | 0 => ⟨fun s c => by unfold exS; exact ds_stuck, fun ss c => by unfold exSs; exact dss_stuck, fun cs c => by
      unfold exC
      exact fun pins s σ H ρ env st d v v' first Dn I g r rv o => o.elim⟩
  | n + 1 => by
    obtain ⟨h1, h2, h3⟩ := exS_ok C n
    have he := ev_ok C n
    refine ⟨fun {S} {X} s c => ?_, fun {S} {X} ss c => ?_, fun {S} {X} cs c => ?_⟩
    · have hN : X.N.Nodup := by rw [c.N]; exact c.nd
      unfold exS
      split
      · exact ds_pass
      · exact ds_break
      · exact ds_continue
      · exact ds_retN
      · exact ds_ret (he.e _ c)
      · split
        · rename_i h; exact ds_expr (he.e _ c) h
        · exact ds_stuck
      · exact ds_if (he.t _ c) (h2 _ c) (h2 _ c)
      · split
        · rename_i h; exact ds_asgOk c h
        · exact ds_stuck
      · split
        · rename_i i h
          obtain ⟨w1, w2, w3⟩ := slotW_ok c h
          exact ds_aug hN w1 w2 (he.e _ c) w3
        · exact ds_stuck
      · split
        · rename_i h
          exact ds_for c.own c.calm (he.i _ _ c) ((evG_ok C n).1 _ c) (h2 _ c) h
        · exact ds_stuck
      · exact ds_while _ c.own (he.t _ c) (h2 _ c)
      · exact ds_match (he.e _ c) (h3 _ c)
      · exact ds_stuck
    · unfold exSs
      split
      · exact dss_nil
      · exact dss_cons (h1 _ c) (h2 _ c)
    · unfold exC
      split
      · exact mc_nil
      · exact mc_cons (by have := c.un; omega) (h2 _ c) (h3 _ c)
      · exact fun pins s σ H ρ env st d v v' first Dn I g r rv o => o.elim
end
end DL
end
section
/-! DL23: a def as a function of data; a table of defs. -/
namespace DL
open PySem PySem.Spec PyProof.Rows L2
/-- a def of the module -/
structure FE where
  N : List Str
  ps : List Str
  sc : Scope
  body : List Stmt
def startD (N : List Str) (ds : List D) : Env' := ds.map some ++ List.replicate (N.length - ds.length) none
def endD : RS → Option (D × Store)
  | .rt d st => some (d, st)
  | .nx _ st => some (.non, st)
  | _ => none
def runFE (C : EC) (n : Nat) (f : FE) : Sem1 := fun ds st => if ds.length = f.ps.length then endD (exSs C ⟨f.N, f.sc, fun _ => true⟩ n f.body (startD f.N ds) st) else none
/-- what a module's names stand for, at level k -/
def GOk2 (K : PySem.W.Frag) (mg : Str → Option Value) (x : Str) : GV → Prop
  | .val d => ∃ v u, mg x = some u ∧ RelV v u ∧ ∀ ρ H, RelD K ρ H d v
  | .blt id => mg x = none ∧ bootBuiltins x = some (.builtin id)
  | .typ T => mg x = none ∧ bootBuiltins x = some (.type T)
  | .fn => True
structure ModOk (C : EC) (k : Nat) (P : Program) (w : World) (K : PySem.W.Frag) (mg : Str → Option Value) (base : Heap) : Prop where
  glob : ∀ x v, C.G x = some v → GOk2 K mg x v
  cal : ∀ x n ks g, C.cal x n ks = some g → ∃ (f : Addr) (fd : FuncData) (ps : List Str) (perm : List Nat) (g0 : Sem1), mg x = some (.ref f) ∧ PySem.W.keepIn K (.ref f) = true ∧ FnG P w K mg base CX0 k f fd ps (spO K ps.length g0) ∧ KB K fd n ks ps perm ∧
    ∀ ds st r, g ds st = some r → ds.length = n + ks.length → (pick perm ds).length = ps.length ∧ g0 (pick perm ds) st = some r
section
variable {P : Program} {w : World} {K : PySem.W.Frag} {mg : Str → Option Value} {base : Heap} {C : EC} {k : Nat}
theorem ctx_of (M : ModOk C k P w K mg base) {X : Cx} {S : SC} (h1 : X.prog = P) (h2 : X.w = w) (h3 : X.K = K) (h4 : X.mg = mg) (h5 : X.base = base) (hr : Room k X.A) (hg : X.A.guards = some []) (hN : X.N = S.N) (nd : S.N.Nodup) (hs : X.env.scope = S.sc) (hk : S.sc.kind = .function) (hf : X.fn = S.fn) (hc : X.calm = true)
    (hx : X.xe = fun _ _ => False) : CtxOk C S X where
  N := hN
  nd := nd
  sc := hs
  kind := hk
  fn := hf
  calm := hc
  gd := hg
  un := by have := hr.un; omega
  xe := hx
  glob := fun x v h => by
    have := M.glob x v h
    subst h3; subst h4
    cases v <;> exact this
  cal := fun x n ks g h => by
    obtain ⟨f, fd, ps, perm, g0, a1, a2, a3, a4, a5⟩ := M.cal x n ks g h
    subst h1; subst h2; subst h3; subst h4; subst h5
    exact ⟨f, fd, ps, k, perm, g0, a1, a2, hr, a3, a4, a5⟩
theorem start_rel {K : PySem.W.Frag} {ρ : Pl} {H : Hp} {N : List Str} {ds : List D} {vs : List V} (r : RelDs K ρ H ds vs) : RelEnv K ρ H (startD N ds) (L2.start N vs) := by
  unfold startD L2.start
  refine ⟨by simp [r.length], fun i d h => ?_⟩
  by_cases hi : i < ds.length
  · rw [List.getElem?_append_left (by simpa using hi), List.getElem?_map] at h
    cases hd : ds[i]? with
    | none => rw [hd] at h; cases h
    | some d' =>
      rw [hd] at h
      cases h
      obtain ⟨v, h1, h2⟩ := r.get hd
      exact ⟨v, by rw [List.getElem?_append_left (by simpa [← r.length] using hi), List.getElem?_map, h1]; rfl, h2⟩
  · rw [List.getElem?_append_right (by simpa using hi), List.getElem?_replicate] at h
    split at h <;> cases h
theorem fnG_ev {x qual : Str} {st : Stmt} {f : Addr} {fd : FuncData} {fe : FE} (F : Fun K x qual st f fd) (hs : defScope st = fe.sc) (hb : defBody st = fe.body) (S : FnScope fe.N fe.ps fe.sc) (n : Nat) (M : ModOk C k P w K mg base) :
    FnG P w K mg base CX0 (k + 1) f fd fe.ps (spO K fe.ps.length (runFE C n fe)) := by
  refine fnG_of F (by rw [hs]; exact S) (fun vs H Q E h => h.1) fun cdv A outer s H vs Q E room gd want => ?_
  obtain ⟨hl, ρ, st0, ds, rs, rd, q⟩ := want
  have c : CtxOk C ⟨fe.N, fe.sc, fun _ => true⟩ (cxOf CX0 P w K mg base fe.N qual (defScope st) f cdv A outer s H E).nox :=
    ctx_of M rfl rfl rfl rfl rfl room gd rfl S.nd hs S.kind rfl rfl rfl
  have walk := (exS_ok C n).2.1 fe.body c
  refine ⟨lS K WF (exSs C ⟨fe.N, fe.sc, fun _ => true⟩ n fe.body), PSs.nox (by rw [hb]; exact walk), ρ, startD fe.N ds, st0, ⟨start_rel rd, rs⟩, ?_⟩
  have hl2 : ds.length = fe.ps.length := by rw [rd.length]; exact hl
  unfold runFE at q
  rw [if_pos hl2] at q
  cases hr : exSs C ⟨fe.N, fe.sc, fun _ => true⟩ n fe.body (startD fe.N ds) st0 with
  | nx env st1 => rw [hr] at q; exact fun ρ' H' σ' e g => q ρ' H' .non e g.st .non
  | rt d st1 => rw [hr] at q; exact fun ρ' H' v e s r => q ρ' H' v e s r
  | _ => rw [hr] at q; exact q.elim
/-- the defs that stand in the module -/
structure TabOk (T : List (Str × FE)) (sh : Str → Nat → List Str → Option (List Nat)) (K : PySem.W.Frag) (mg : Str → Option Value) : Prop where
  fn : ∀ x fe, T.lookup x = some fe → ∃ (f : Addr) (fd : FuncData) (qual : Str) (st : Stmt), mg x = some (.ref f) ∧ PySem.W.keepIn K (.ref f) = true ∧ Fun K x qual st f fd ∧ defScope st = fe.sc ∧ defBody st = fe.body ∧ FnScope fe.N fe.ps fe.sc ∧
    ∀ n ks perm, sh x n ks = some perm → KB K fd n ks fe.ps perm
def calOf (T : List (Str × FE)) (sh : Str → Nat → List Str → Option (List Nat)) (G : Str → Option GV) (mu : Pos → Bool) (fuel : Nat) : Nat → Str → Nat → List Str → Option Sem1
  | 0 => fun _ _ _ => none
  | k + 1 => fun x n ks => match T.lookup x, sh x n ks with
    | some fe, some perm => some fun ds st => if (pick perm ds).length = fe.ps.length then runFE ⟨G, calOf T sh G mu fuel k, mu⟩ fuel fe (pick perm ds) st else none
    | _, _ => none
theorem mod_ok {T : List (Str × FE)} {sh : Str → Nat → List Str → Option (List Nat)} {G : Str → Option GV} {mu : Pos → Bool} {fuel : Nat} (hG : ∀ x v, G x = some v → GOk2 K mg x v) (hT : TabOk T sh K mg) : ∀ k, ModOk ⟨G, calOf T sh G mu fuel k, mu⟩ k P w K mg base
  | 0 => ⟨hG, fun x n ks g h => by cases h⟩
  | k + 1 => by
    have M := mod_ok (fuel := fuel) (mu := mu) hG hT k
    refine ⟨hG, fun x n ks g h => ?_⟩
    change (match T.lookup x, sh x n ks with
    | some fe, some perm => some fun ds st => if (pick perm ds).length = fe.ps.length then runFE ⟨G, calOf T sh G mu fuel k, mu⟩ fuel fe (pick perm ds) st else none
    | _, _ => none) = some g at h
    split at h
    · rename_i fe perm h1 h2
      cases h
      obtain ⟨f, fd, qual, st, a1, a2, a3, a4, a5, a6, a7⟩ := hT.fn x fe h1
      refine ⟨f, fd, fe.ps, perm, _, a1, a2, fnG_ev a3 a4 a5 a6 fuel M, a7 n ks perm h2, fun ds st r e hl => ?_⟩
      dsimp only at e
      split at e
      · exact ⟨by assumption, e⟩
      · cases e
    · cases h
end
end DL
end
section
/-! DL24: the law's own call: from a function of data to the statement. -/
namespace DL
open PySem PySem.Spec PyProof.Rows L2
/-- what the machine must show behind the law's call -/
def LawEnd (s : Shared) : Result → Shared → Prop := fun r s' => r = .ok (.ret (.bool true)) ∧ OldK s.heap s'.heap ∧ s'.os = s.os ∧ AllBare s'.gens
section
variable {P : Program} {w : World} {K : PySem.W.Frag} {mg mb : Str → Option Value} {k : Nat} {fa a : Addr} {fd : FuncData} {x : Str} {g : Sem1} {s : Shared} {vs : List Value} {ns : List Int} {H : Hp}
/-- the heap as the law's frame may see it: all but what H tracks -/
theorem hid_ok (KX : K.In s.heap) (h1 : s.heap.Ns mainGlobals mg) (h2 : s.heap.Ns builtinsNs mb) (h3 : ∀ y : Str, y ≠ "__name__" → mb y = bootBuiltins y) (h4 : s.heap.NoLimit)
    (one : ∀ b o, s.heap.get? b = some o → H b ≠ none → o = { cls := .type "list", data := .seq vs.toArray } ∧ K.lookup b = none) :
    K.In (hidT s.heap H) ∧ (hidT s.heap H).Ns mainGlobals mg ∧ Mod K mg (hidT s.heap H) := by
  have dic : ∀ {b : Addr} {o : Obj} {es : Array DictEntry} {ep : Nat}, s.heap.get? b = some o → o.data = .dict es ep → (hidT s.heap H).get? b = some o := by
    intro b o es ep e d
    refine hidT_get e ?_
    by_cases n : H b = none
    · exact n
    · obtain ⟨rfl, _⟩ := one b o e n
      have d' : Data.seq vs.toArray _ = Data.dict es ep := d
      cases d'
  have spaces : ∀ {b : Addr} {m : Str → Option Value}, s.heap.Ns b m → (hidT s.heap H).Ns b m := by
    rintro b m ⟨o, es, ep, e, d, r⟩
    exact ⟨o, es, ep, dic e d, d, r⟩
  have kin : K.In (hidT s.heap H) := by
    intro b o e
    refine hidT_get (KX b o e) ?_
    by_cases n : H b = none
    · exact n
    · have := (one b o (KX b o e) n).2
      rw [e] at this; cases this
  obtain ⟨mc, l1, l2⟩ := h4
  exact ⟨kin, spaces h1, kin, spaces h1, ⟨mb, spaces h2, h3⟩, mc, spaces l1, l2⟩
/-- the call, from a tracked heap that tracks nothing but the script -/
theorem run_at (KX : K.In s.heap) (h1 : s.heap.Ns mainGlobals mg) (h2 : s.heap.Ns builtinsNs mb) (h3 : ∀ y : Str, y ≠ "__name__" → mb y = bootBuiltins y) (h4 : s.heap.NoLimit) (h5 : s.gens = #[]) (hr : Room k callerA)
    (one : ∀ b o, s.heap.get? b = some o → H b ≠ none → o = { cls := .type "list", data := .seq vs.toArray } ∧ K.lookup b = none) (fz : ∀ b, H b = none ∨ ∃ o xs, H b = some (.frz o (.lst xs))) (hok : HOk P w H s.heap)
    (F : ∀ base : Heap, K.In base → base.Ns mainGlobals mg → FnG P w K mg base CX0 k fa fd [x] (spO K 1 g)) (hbind : ∀ (s : Shared) (u : Value), BindsTo s fd ⟨[u], []⟩ [(x, u)])
    (want : rD K g [.ref a] H fun v _ => v = .bl true) : codeAny (model P w) callerA (.call (.ref fa) ⟨[.ref a], []⟩) (LawEnd s) s := by
  obtain ⟨kin, nsg, md⟩ := hid_ok KX h1 h2 h3 h4 one
  have start0 : Env0 P w K mg (hidT s.heap H) callerA [] s H := {
    frames := rfl
    mod := md
    bs := fun b o e => of_hidT e
    bsz := Nat.le_of_eq (hidT_size _ _)
    funs := trivial
    frf := fun b hb => by cases hb
    hok := hok
    bare := .of_eq h5 }
  have ran := (F _ kin nsg).run callerA [] s H ⟨[.ref a], []⟩ [.ref a] [.ref a] _ (fun _ _ _ => False) hr rfl start0 (hbind s (.ref a)) (.cons rfl .nil) ⟨rfl, want⟩
  refine codeAny_mono ran ?_
  intro r s' h
  match r, h with
  | .error e, h => exact h.elim
  | .ok .next, h => exact h.elim
  | .ok .brk, h => exact h.elim
  | .ok .cont, h => exact h.elim
  | .ok (.ret u), ⟨v, H', os, bare, un, hok', rv, q⟩ =>
    cases (show v = .bl true from q)
    cases (show u = Value.bool true from rv)
    refine ⟨rfl, OldK.of_keep fun b o e => ?_, os, bare⟩
    rcases fz b with z | ⟨ob, xs, z⟩
    · exact un.keep b o e z (fun m => by cases m) (fun m => by cases m)
    · have e1 := (hok b _ z).1
      have e2 := (hok' b _ (un.frzs b ob _ z)).1
      rw [e] at e1; cases e1
      exact e2
theorem ints_vals : ∀ {vs : List Value} {ns : List Int}, IntsAre vs ns → Vals (ns.map V.int) vs
  | _, _, .nil => .nil
  | _, _, .cons n t h => .cons ⟨t, rfl⟩ (ints_vals h)
theorem ints_data {K : PySem.W.Frag} {ρ : Pl} {H : Hp} : ∀ ns : List Int, RelDs K ρ H (ns.map D.int) (ns.map V.int)
  | [] => .nil
  | n :: ns => .cons (.int n) (ints_data ns)
/-- the law's call: its function of data says True of every such script -/
theorem head_call (KX : K.In s.heap) (h1 : s.heap.Ns mainGlobals mg) (h2 : s.heap.Ns builtinsNs mb) (h3 : ∀ y : Str, y ≠ "__name__" → mb y = bootBuiltins y) (h4 : s.heap.NoLimit) (h5 : s.gens = #[]) (hr : Room k callerA)
    (ha : s.heap.get? a = some { cls := .type "list", data := .seq vs.toArray }) (hi : IntsAre vs ns) (hl : ns.length ≤ sizeLine)
    (F : ∀ base : Heap, K.In base → base.Ns mainGlobals mg → FnG P w K mg base CX0 k fa fd [x] (spO K 1 g)) (hbind : ∀ (s : Shared) (u : Value), BindsTo s fd ⟨[u], []⟩ [(x, u)])
    (want : ∃ st, g [.scr (ns.map D.int)] [] = some (.bl true, st)) : codeAny (model P w) callerA (.call (.ref fa) ⟨[.ref a], []⟩) (LawEnd s) s := by
  obtain ⟨st, want⟩ := want
  have rv := ints_vals hi
  have said : ∀ {H : Hp}, (∀ ρ : Pl, ρ = ⟨[], []⟩ → RelD K ρ H (.scr (ns.map D.int)) (.ref a)) → rD K g [.ref a] H fun v _ => v = .bl true := by
    intro H q
    refine ⟨⟨[], []⟩, [], _, ⟨rfl, List.nodup_nil, fun n a o e => (by simp at e), fun b hb => (by cases hb), fun b hb => (by cases hb)⟩, .cons (q _ rfl) .nil, ?_⟩
    rw [want]
    exact fun ρ' H' v e s' r => by cases r; rfl
  cases hk : K.lookup a with
  | some o =>
    have same := KX a o hk
    rw [ha] at same
    cases same
    refine run_at (vs := vs) (H := fun _ => none) KX h1 h2 h3 h4 h5 hr (fun b o _ n => absurd rfl n) (fun _ => .inl rfl) (fun b u z => by cases z) F hbind (said fun ρ _ => ?_)
    exact .scrK (.inr ⟨_, vs.toArray, _, hk, rfl, rfl, rfl, by rw [List.size_toArray, hi.length]; exact hl, by simpa using rv⟩) (ints_data ns)
  | none =>
    refine run_at (vs := vs) (H := fun b => if b = a then some (.frz { cls := .type "list", data := .seq vs.toArray } (.lst (ns.map V.int))) else none) KX h1 h2 h3 h4 h5 hr (fun b o e n => ?_) (fun b => ?_) (fun b u z => ?_) F hbind (said fun ρ hρ => ?_)
    · by_cases hb : b = a
      · subst hb
        rw [ha] at e
        cases e
        exact ⟨rfl, hk⟩
      · exact absurd (if_neg hb) n
    · by_cases hb : b = a
      · exact .inr ⟨_, _, if_pos hb⟩
      · exact .inl (if_neg hb)
    · by_cases hb : b = a
      · subst hb
        have z' := (if_pos rfl).symm.trans z
        cases z'
        exact ⟨ha, by rw [List.length_map]; exact hl, vs, _, rv, ha⟩
      · have z' := (if_neg hb).symm.trans z
        cases z'
    · subst hρ
      exact .scr (.inr ⟨_, if_pos rfl⟩) ⟨fun m => (by cases m), fun m => (by cases m)⟩ (ints_data ns)
end
/-- the statement's walk -/
theorem walkD {l : PySem.W.OpenLaw} {n k : Nat} {q : Program} {loose : List Str} {XP : (Str → Option Value) → Heap → Prop} {YP : World → Heap → Prop} {d : DefRec} {K : Params → PySem.W.Frag} {x : Str} {g : Sem1}
    (hn : l.most = some n) (hn2 : n ≤ sizeLine) (hdf : d.params.defaults = []) (hr : Room k callerA) (hY : ∀ (w : World) (h : Heap), YP w h → (K w.params).In h)
    (F : ∀ (w : World) (mg : Str → Option Value) (fa : Addr) (h : Heap), (K w.params).In h → h.Ns mainGlobals mg → mg d.name = some (.ref fa) →
      ∃ fd : FuncData, (∀ (s : Shared) (u : Value), BindsTo s fd ⟨[u], []⟩ [(x, u)]) ∧ ∀ base : Heap, (K w.params).In base → base.Ns mainGlobals mg → FnG l.prog w (K w.params) mg base CX0 k fa fd [x] (spO (K w.params) 1 g))
    (want : ∀ ns : List Int, ns.length ≤ n → (∀ i ∈ ns, Builtin.Int.intBits i ≤ 1048576) → ∃ st, g [.scr (ns.map D.int)] [] = some (.bl true, st)) :
    PySem.W.WalkO q loose XP YP l.row.toRowW d [] (fun f vs => PySem.call f vs) := by
  refine Att.attach_callB hn hdf ?_
  intro w s₀ s₁ mg mb fa o pm cd doc a vs ns G Y ho hd hcd hmg hobj hints hlen hbits hg
  have KX := hY w _ Y
  obtain ⟨fd, hb, hF⟩ := F w mg fa _ KX G.T.g hmg
  exact head_call KX G.T.g G.T.b G.T.builtins G.T.nolimit hg hr hobj hints (Nat.le_trans hlen hn2) hF hb (want ns hlen hbits)
end DL
end
section
/-! DL25: match by texts, for mirrors. -/
namespace DL
open PySem L2
def spats : List Str → D → Store → Option Bool
  | [], _, _ => some false
  | x :: r, d, st => match eqB d (.str x) st with
    | some true => some true
    | some false => spats r d st
    | none => none
def fcaseOr (xs : List Str) (f : FS) (g : D → FS) : D → FS := fun d env st => match spats xs d st with
  | some true => f env st
  | some false => g d env st
  | none => .stuck
def fcase1 (x : Str) (f : FS) (g : D → FS) : D → FS := fun d env st => match eqB d (.str x) st with
  | some true => f env st
  | some false => g d env st
  | none => .stuck
def fcaseAny (f : FS) (g : D → FS) : D → FS := fun d env st => f env st
end DL
end
section
/-! DLP1: plain data: sizes, texts. -/
namespace DL
open PySem L2 PyProof.Rows
mutual
/-- nothing but None, bools, ints, texts, tuples, lists; the ints have at most 62 digits -/
def good : D → Bool
  | .non => true
  | .bl _ => true
  | .int i => decide (i.natAbs < 10 ^ 62)
  | .str x => PyData.strOk x
  | .tup xs => goods xs
  | .lst xs => goods xs
  | _ => false
def goods : List D → Bool
  | [] => true
  | x :: r => good x && goods r
end
mutual
/-- how long its text is at most -/
def wt : D → Nat
  | .int _ => 70
  | .str x => 10 * x.length + 10
  | .tup xs => 5 + wts xs
  | .lst xs => 5 + wts xs
  | _ => 10
def wts : List D → Nat
  | [] => 0
  | x :: r => wt x + 2 + wts r
end
mutual
/-- how deep it is nested -/
def dp : D → Nat
  | .tup xs => dps xs + 1
  | .lst xs => dps xs + 1
  | _ => 0
def dps : List D → Nat
  | [] => 0
  | x :: r => max (dp x) (dps r)
end
theorem goods_mem : ∀ {xs : List D} {x : D}, goods xs = true → x ∈ xs → good x = true
  | y :: r, x, h, m => by
    simp only [goods, Bool.and_eq_true] at h
    rcases List.mem_cons.mp m with rfl | m
    · exact h.1
    · exact goods_mem h.2 m
theorem goods_all : ∀ {xs : List D}, (∀ x ∈ xs, good x = true) → goods xs = true
  | [], _ => rfl
  | x :: r, h => by
    simp only [goods, h x List.mem_cons_self, goods_all fun y hy => h y (List.mem_cons_of_mem _ hy), Bool.and_self]
theorem goods_append {xs ys : List D} (h1 : goods xs = true) (h2 : goods ys = true) : goods (xs ++ ys) = true := goods_all fun x hx => by
  rcases List.mem_append.mp hx with m | m
  · exact goods_mem h1 m
  · exact goods_mem h2 m
theorem wts_append (xs ys : List D) : wts (xs ++ ys) = wts xs + wts ys := by
  induction xs with
  | nil => simp [wts]
  | cons x r ih => simp only [List.cons_append, wts, ih]; omega
theorem dps_append (xs ys : List D) : dps (xs ++ ys) = max (dps xs) (dps ys) := by
  induction xs with
  | nil => simp [dps]
  | cons x r ih => simp only [List.cons_append, dps, ih]; omega
theorem wt_mem : ∀ {xs : List D} {x : D}, x ∈ xs → wt x + 2 ≤ wts xs
  | y :: r, x, m => by
    simp only [wts]
    rcases List.mem_cons.mp m with rfl | m
    · omega
    · have := wt_mem m; omega
theorem dp_mem : ∀ {xs : List D} {x : D}, x ∈ xs → dp x ≤ dps xs
  | y :: r, x, m => by
    simp only [dps]
    rcases List.mem_cons.mp m with rfl | m
    · omega
    · have := dp_mem m; omega
theorem len_wts : ∀ xs : List D, xs.length ≤ wts xs
  | [] => Nat.zero_le _
  | x :: r => by simp only [List.length_cons, wts]; have := len_wts r; omega
/-! texts -/
theorem join_le (ts : List Str) : (Str.join ", " ts).length ≤ piled ts := by
  cases ts with
  | nil => decide +kernel
  | cons t r => have := join_length_add (t :: r) (by simp); omega
theorem tupleText_le (ts : List Str) : (tupleText ts).length ≤ piled ts + 3 := by
  unfold tupleText
  rw [strLen_append, strLen_append]
  have := join_le ts
  have e1 : ((("(" : String) : Str)).length = 1 := rfl
  have e2 : ((if ts.length == 1 then ",)" else ")" : String) : Str).length ≤ 2 := by split <;> decide +kernel
  omega
theorem listText_le (ts : List Str) : (listText ts).length ≤ piled ts + 3 := by
  rw [listText_eq_join, strLen_append, strLen_append]
  have := join_le ts
  have e1 : ((("[" : String) : Str)).length = 1 := rfl
  have e2 : ((("]" : String) : Str)).length = 1 := rfl
  omega
mutual
theorem good_P : ∀ {d : D}, good d = true → ∃ p, toP d = some p ∧ p.showable = true ∧ p.canLay0 = true ∧ p.depth = dp d ∧ p.shown.length ≤ wt d
  | .non, _ => ⟨.none, rfl, by simp [PyData.showable], by simp [PyData.canLay0], by simp [PyData.depth, dp], by rw [PyData.shown_none]; decide +kernel⟩
  | .bl b, _ => ⟨.bool b, rfl, by simp [PyData.showable], by simp [PyData.canLay0], by simp [PyData.depth, dp], by
      rw [PyData.shown_bool]; cases b <;> decide +kernel⟩
  | .int i, h => by
    simp only [good, decide_eq_true_eq] at h
    refine ⟨.int i, rfl, ?_, by simp [PyData.canLay0], by simp [PyData.depth, dp], ?_⟩
    · simp only [PyData.showable, decide_eq_true_eq]
      have h2 : i.natAbs < 2 ^ 1919 := Nat.lt_of_lt_of_le h (by decide +kernel)
      by_cases h0 : i.natAbs = 0
      · rw [h0]; decide
      · have := (Nat.log2_lt h0).mpr h2
        omega
    · rw [PyData.shown_int]
      have := int_text_length_le10 (k := 62) (by decide) h
      have e : ((toString i : String) : Str).length = (toString i).length := PySem.ofString_length _
      show ((toString i : String) : Str).length ≤ 70
      omega
  | .str x, h => by
    simp only [good] at h
    refine ⟨.str x, rfl, by simp [PyData.showable], by simpa [PyData.canLay0] using h, by simp [PyData.depth, dp], ?_⟩
    have hx : ∀ c ∈ x.cps.toList, c < 16 ^ 8 := fun c hc => by
      unfold PyData.strOk at h
      rw [Array.all_eq_true_iff_forall_mem] at h
      have := h c (by simpa using hc)
      have := of_decide_eq_true this
      omega
    have := PySem.StrLaws.reprText_len x hx
    simp only [PyData.shown, wt]
    omega
  | .tup xs, h => by
    simp only [good] at h
    obtain ⟨ps, e, h1, h2, h3, h4⟩ := goods_P h
    refine ⟨.tuple ps, by simp [toP, e], by simpa [PyData.showable] using h1, by simpa [PyData.canLay0] using h2, by simp [PyData.depth, dp, h3], ?_⟩
    have := tupleText_le (PyData.shownAll ps)
    simp only [PyData.shown, wt]
    omega
  | .lst xs, h => by
    simp only [good] at h
    obtain ⟨ps, e, h1, h2, h3, h4⟩ := goods_P h
    refine ⟨.list ps, by simp [toP, e], by simpa [PyData.showable] using h1, by simpa [PyData.canLay0] using h2, by simp [PyData.depth, dp, h3], ?_⟩
    have := listText_le (PyData.shownAll ps)
    simp only [PyData.shown, wt]
    omega
  | .ty _, h => by cases h
  | .adr _, h => by cases h
  | .scr _, h => by cases h
  | .obj _, h => by cases h
theorem goods_P : ∀ {ds : List D}, goods ds = true → ∃ ps, toPs ds = some ps ∧ PyData.showableAll ps = true ∧ PyData.canLayAll0 ps = true ∧ PyData.depthAll ps = dps ds ∧ piled (PyData.shownAll ps) ≤ wts ds
  | [], _ => ⟨[], rfl, rfl, rfl, rfl, Nat.le_refl _⟩
  | d :: ds, h => by
    simp only [goods, Bool.and_eq_true] at h
    obtain ⟨p, a1, a2, a3, a4, a5⟩ := good_P h.1
    obtain ⟨ps, b1, b2, b3, b4, b5⟩ := goods_P h.2
    refine ⟨p :: ps, by simp [toPs, a1, b1], by simp [PyData.showableAll, a2, b2], by simp [PyData.canLayAll0, a3, b3], by simp [PyData.depthAll, dps, a4, b4], ?_⟩
    simp only [PyData.shownAll, piled_cons, wts]
    omega
end
end DL
end
section
/-! DLQ: the combinators, step by step, for simp. -/
namespace DL
open PySem L2
section
variable {α β : Type} {a : α} {st : Store} {env : Env'} {fa fb fc : FF D} {fs fk : FF (List D)} {ta tb : FF Bool} {s1 s2 : FS}
@[simp] theorem bind_ok (k : α → Store → Res β) : (Res.ok a st).bind k = k a st := rfl
@[simp] theorem bind_stuck (k : α → Store → Res β) : (Res.stuck : Res α).bind k = .stuck := rfl
@[simp] theorem toS_ok (k : α → Store → RS) : (Res.ok a st).toS env k = k a st := rfl
@[simp] theorem toS_stuck (k : α → Store → RS) : (Res.stuck : Res α).toS env k = .stuck := rfl
@[simp] theorem fvar0 (d : D) : fvar 0 (some d :: env) st = .ok d st := rfl
@[simp] theorem fvarS (o : Option D) (i : Nat) : fvar (i + 1) (o :: env) st = fvar i env st := rfl
@[simp] theorem fvar1 (o : Option D) : fvar 1 (o :: env) st = fvar 0 env st := rfl
@[simp] theorem fvar2 (o : Option D) : fvar 2 (o :: env) st = fvar 1 env st := rfl
@[simp] theorem fvar3 (o : Option D) : fvar 3 (o :: env) st = fvar 2 env st := rfl
@[simp] theorem fvar4 (o : Option D) : fvar 4 (o :: env) st = fvar 3 env st := rfl
@[simp] theorem fvar5 (o : Option D) : fvar 5 (o :: env) st = fvar 4 env st := rfl
@[simp] theorem fvar6 (o : Option D) : fvar 6 (o :: env) st = fvar 5 env st := rfl
@[simp] theorem fvar7 (o : Option D) : fvar 7 (o :: env) st = fvar 6 env st := rfl
@[simp] theorem fvar8 (o : Option D) : fvar 8 (o :: env) st = fvar 7 env st := rfl
@[simp] theorem fvar9 (o : Option D) : fvar 9 (o :: env) st = fvar 8 env st := rfl
@[simp] theorem fvar10 (o : Option D) : fvar 10 (o :: env) st = fvar 9 env st := rfl
@[simp] theorem fvar11 (o : Option D) : fvar 11 (o :: env) st = fvar 10 env st := rfl
@[simp] theorem fvar12 (o : Option D) : fvar 12 (o :: env) st = fvar 11 env st := rfl
@[simp] theorem fvar13 (o : Option D) : fvar 13 (o :: env) st = fvar 12 env st := rfl
@[simp] theorem fvar14 (o : Option D) : fvar 14 (o :: env) st = fvar 13 env st := rfl
@[simp] theorem fcon_ (d : D) : fcon d env st = .ok d st := rfl
@[simp] theorem fnil_ : fnil env st = .ok [] st := rfl
@[simp] theorem fcons_ : fcons fa fs env st = (fa env st).bind fun d st1 => (fs env st1).bind fun ds st2 => .ok (d :: ds) st2 := rfl
@[simp] theorem fapp_ : fapp fs fk env st = (fs env st).bind fun ds st1 => (fk env st1).bind fun es st2 => .ok (ds ++ es) st2 := rfl
@[simp] theorem fcallO_ (g : Sem1) : fcallO g fs env st = (fs env st).bind fun ds st1 => ofO (g ds st1) := rfl
@[simp] theorem ofO_some (d : D) : ofO (some (d, st)) = .ok d st := rfl
@[simp] theorem ofO_none : ofO (none : Option (D × Store)) = .stuck := rfl
@[simp] theorem fbin_ (g : D → D → Store → Res D) : fbin g fa fb env st = (fa env st).bind fun x st1 => (fb env st1).bind fun y st2 => g x y st2 := rfl
@[simp] theorem ftup_ : ftup fs env st = (fs env st).bind fun ds st1 => if ds.length ≤ 16777216 then .ok (.tup ds) st1 else .stuck := rfl
@[simp] theorem flst_ (m : Bool) : flst m fs env st = (fs env st).bind fun ds st1 => if ds.length ≤ 16777216 then (if m then .ok (.obj st1.length) (st1 ++ [.lst ds]) else .ok (.lst ds) st1) else .stuck := rfl
@[simp] theorem fseq_ : fseq s1 s2 env st = match s1 env st with
    | .nx env1 st1 => s2 env1 st1
    | r => r := rfl
@[simp] theorem fskip_ : fskip env st = .nx env st := rfl
@[simp] theorem fret_ : fret fa env st = (fa env st).toS env fun d st1 => .rt d st1 := rfl
@[simp] theorem fdrop_ : fdrop fa env st = (fa env st).toS env fun _ st1 => .nx env st1 := rfl
@[simp] theorem fifS_ : fifS ta s1 s2 env st = (ta env st).toS env fun k st1 => if k then s1 env st1 else s2 env st1 := rfl
@[simp] theorem fif_ : fif ta fa fb env st = (ta env st).bind fun k st1 => if k then fa env st1 else fb env st1 := rfl
@[simp] theorem fnot_ : fnot ta env st = (ta env st).bind fun k st1 => .ok (!k) st1 := rfl
@[simp] theorem fand_ : fand ta tb env st = (ta env st).bind fun k st1 => if k then tb env st1 else .ok false st1 := rfl
@[simp] theorem for__ : for_ ta tb env st = (ta env st).bind fun k st1 => if k then .ok true st1 else tb env st1 := rfl
@[simp] theorem fasg_ (g : FG) : fasg fa g env st = (fa env st).toS env fun d st1 => Opt.toS (g d env st1) := rfl
@[simp] theorem optS_some (p : Env' × Store) : Opt.toS (some p) = .nx p.1 p.2 := rfl
@[simp] theorem gname_ (i : Nat) (d : D) : gname i d env st = some (env.set i (some d), st) := rfl
@[simp] theorem fmatch_ (g : D → FS) : fmatch fa g env st = (fa env st).toS env fun d st1 => g d env st1 := rfl
@[simp] theorem endD_rt (d : D) : endD (.rt d st) = some (d, st) := rfl
@[simp] theorem endD_nx : endD (.nx env st) = some (.non, st) := rfl
@[simp] theorem fandV_ : fandV fa fb env st = (fa env st).bind fun d st1 => match d with
    | .bl true => fb env st1
    | .bl false => .ok (.bl false) st1
    | _ => .stuck := rfl
@[simp] theorem forV_ : forV fa fb env st = (fa env st).bind fun d st1 => match d with
    | .bl true => .ok (.bl true) st1
    | .bl false => fb env st1
    | _ => .stuck := rfl
@[simp] theorem fnotV_ : fnotV fa env st = (fa env st).bind fun d st1 => match d with
    | .bl k => .ok (.bl (!k)) st1
    | _ => .stuck := rfl
@[simp] theorem fneg_ : fneg fa env st = (fa env st).bind fun d st1 => match d with
    | .int i => .ok (.int (-i)) st1
    | _ => .stuck := rfl
@[simp] theorem fbool_ : fbool fa env st = (fa env st).bind fun d st1 => match d with
    | .bl k => .ok k st1
    | _ => .stuck := rfl
@[simp] theorem ftru_ : ftru fa env st = (fa env st).bind fun d st1 => match truD st1 d with
    | some k => .ok k st1
    | none => .stuck := rfl
@[simp] theorem fchain_ (g g' : D → D → Store → Res D) : fchain g g' fa fb fc env st = (fa env st).bind fun x st1 => (fb env st1).bind fun y st2 => (g x y st2).bind fun k st3 => match k with
    | .bl true => (fc env st3).bind fun z st4 => g' y z st4
    | .bl false => .ok (.bl false) st3
    | _ => .stuck := rfl
theorem fandV_bl {b c : Bool} (h1 : fa env st = .ok (.bl b) st) (h2 : b = true → fb env st = .ok (.bl c) st) : fandV fa fb env st = .ok (.bl (b && c)) st := by
  rw [fandV_, h1]
  cases b with
  | true => simpa using h2 rfl
  | false => rfl
end
/-! what the built-ins say of plain values -/
@[simp] theorem truD_bl (st : Store) (b : Bool) : truD st (.bl b) = some b := rfl
@[simp] theorem ge_int (i j : Int) (st : Store) : cmpD .GtE (.int i) (.int j) st = .ok (.bl (decide (j ≤ i))) st := rfl
@[simp] theorem gt_int (i j : Int) (st : Store) : cmpD .Gt (.int i) (.int j) st = .ok (.bl (decide (j < i))) st := rfl
@[simp] theorem le_int (i j : Int) (st : Store) : cmpD .LtE (.int i) (.int j) st = .ok (.bl (decide (i ≤ j))) st := rfl
@[simp] theorem lt_int (i j : Int) (st : Store) : cmpD .Lt (.int i) (.int j) st = .ok (.bl (decide (i < j))) st := rfl
@[simp] theorem eq_int (i j : Int) (st : Store) : cmpD .Eq (.int i) (.int j) st = .ok (.bl (i == j)) st := rfl
@[simp] theorem len_tup (xs : List D) (st : Store) : lenD [.tup xs] st = some (.int xs.length, st) := rfl
@[simp] theorem add_int (i j : Int) (st : Store) : binD2 .Add (.int i) (.int j) st = .ok (.int (i + j)) st := rfl
@[simp] theorem sub_int (i j : Int) (st : Store) : binD2 .Sub (.int i) (.int j) st = .ok (.int (i - j)) st := rfl
@[simp] theorem int_int (i : Int) (st : Store) : intD [.int i] st = some (.int i, st) := rfl
@[simp] theorem isi_non_int (st : Store) : isiD [.non, .ty "int"] st = some (.bl false, st) := rfl
@[simp] theorem isi_non_bool (st : Store) : isiD [.non, .ty "bool"] st = some (.bl false, st) := rfl
@[simp] theorem isi_non_str (st : Store) : isiD [.non, .ty "str"] st = some (.bl false, st) := rfl
@[simp] theorem isi_non_tuple (st : Store) : isiD [.non, .ty "tuple"] st = some (.bl false, st) := rfl
@[simp] theorem isi_non_list (st : Store) : isiD [.non, .ty "list"] st = some (.bl false, st) := rfl
@[simp] theorem isi_bl_int (b : Bool) (st : Store) : isiD [(.bl b), .ty "int"] st = some (.bl true, st) := rfl
@[simp] theorem isi_bl_bool (b : Bool) (st : Store) : isiD [(.bl b), .ty "bool"] st = some (.bl true, st) := rfl
@[simp] theorem isi_bl_str (b : Bool) (st : Store) : isiD [(.bl b), .ty "str"] st = some (.bl false, st) := rfl
@[simp] theorem isi_bl_tuple (b : Bool) (st : Store) : isiD [(.bl b), .ty "tuple"] st = some (.bl false, st) := rfl
@[simp] theorem isi_bl_list (b : Bool) (st : Store) : isiD [(.bl b), .ty "list"] st = some (.bl false, st) := rfl
@[simp] theorem isi_int_int (i : Int) (st : Store) : isiD [(.int i), .ty "int"] st = some (.bl true, st) := rfl
@[simp] theorem isi_int_bool (i : Int) (st : Store) : isiD [(.int i), .ty "bool"] st = some (.bl false, st) := rfl
@[simp] theorem isi_int_str (i : Int) (st : Store) : isiD [(.int i), .ty "str"] st = some (.bl false, st) := rfl
@[simp] theorem isi_int_tuple (i : Int) (st : Store) : isiD [(.int i), .ty "tuple"] st = some (.bl false, st) := rfl
@[simp] theorem isi_int_list (i : Int) (st : Store) : isiD [(.int i), .ty "list"] st = some (.bl false, st) := rfl
@[simp] theorem isi_str_int (x : Str) (st : Store) : isiD [(.str x), .ty "int"] st = some (.bl false, st) := rfl
@[simp] theorem isi_str_bool (x : Str) (st : Store) : isiD [(.str x), .ty "bool"] st = some (.bl false, st) := rfl
@[simp] theorem isi_str_str (x : Str) (st : Store) : isiD [(.str x), .ty "str"] st = some (.bl true, st) := rfl
@[simp] theorem isi_str_tuple (x : Str) (st : Store) : isiD [(.str x), .ty "tuple"] st = some (.bl false, st) := rfl
@[simp] theorem isi_str_list (x : Str) (st : Store) : isiD [(.str x), .ty "list"] st = some (.bl false, st) := rfl
@[simp] theorem isi_tup_int (xs : List D) (st : Store) : isiD [(.tup xs), .ty "int"] st = some (.bl false, st) := rfl
@[simp] theorem isi_tup_bool (xs : List D) (st : Store) : isiD [(.tup xs), .ty "bool"] st = some (.bl false, st) := rfl
@[simp] theorem isi_tup_str (xs : List D) (st : Store) : isiD [(.tup xs), .ty "str"] st = some (.bl false, st) := rfl
@[simp] theorem isi_tup_tuple (xs : List D) (st : Store) : isiD [(.tup xs), .ty "tuple"] st = some (.bl true, st) := rfl
@[simp] theorem isi_tup_list (xs : List D) (st : Store) : isiD [(.tup xs), .ty "list"] st = some (.bl false, st) := rfl
@[simp] theorem isi_lst_int (xs : List D) (st : Store) : isiD [(.lst xs), .ty "int"] st = some (.bl false, st) := rfl
@[simp] theorem isi_lst_bool (xs : List D) (st : Store) : isiD [(.lst xs), .ty "bool"] st = some (.bl false, st) := rfl
@[simp] theorem isi_lst_str (xs : List D) (st : Store) : isiD [(.lst xs), .ty "str"] st = some (.bl false, st) := rfl
@[simp] theorem isi_lst_tuple (xs : List D) (st : Store) : isiD [(.lst xs), .ty "tuple"] st = some (.bl false, st) := rfl
@[simp] theorem isi_lst_list (xs : List D) (st : Store) : isiD [(.lst xs), .ty "list"] st = some (.bl true, st) := rfl
end DL
end
section
/-! DLQ2: comprehensions and loops over what stands still. -/
namespace DL
open PySem L2
/-- a comprehension with a test: what is kept -/
theorem lcL_pure {chk : Store → Bool} {c : CT} {tt : FF Bool} {te : FF D} {env0 : Env'} {st : Store} {p : D → Bool} {g : D → D} (hc : chk st = true) : ∀ (l acc : List D),
    (∀ x ∈ l, ∃ env1, bindT c x env0 = some env1 ∧ tt env1 st = .ok (p x) st ∧ (p x = true → te env1 st = .ok (g x) st)) → acc.length + l.length ≤ 16777216 →
    lcL chk c tt te env0 l acc st = some (acc ++ (l.filter p).map g, st)
  | [], acc, _, _ => by simp [lcL, hc]
  | x :: l, acc, h, hl => by
    obtain ⟨env1, h1, h2, h3⟩ := h x List.mem_cons_self
    simp only [List.length_cons] at hl
    unfold lcL
    rw [if_pos hc, h1]
    simp only [h2]
    cases hp : p x with
    | true =>
      simp only [h3 hp]
      rw [if_pos (by omega), lcL_pure hc l _ (fun y hy => h y (List.mem_cons_of_mem _ hy)) (by simp; omega)]
      simp [List.filter_cons, hp]
    | false =>
      simp only
      rw [lcL_pure hc l _ (fun y hy => h y (List.mem_cons_of_mem _ hy)) (by omega)]
      simp [List.filter_cons, hp]
/-- the signs of a text -/
def signs (x : Str) : List D := x.cps.toList.map fun c => .str ⟨#[c]⟩
theorem signs_len (x : Str) : (signs x).length = x.length := by simp [signs, Str.length]
theorem lc_str {tt : FF Bool} {te : FF D} {fe : FF D} {env : Env'} {st : Store} {x : Str} {i : Nat} {p : D → Bool} {g : D → D} (h0 : fe env st = .ok (.str x) st) (hl : x.length ≤ 16777216)
    (h : ∀ c ∈ x.cps.toList, ∀ env1, env1 = (env.set i none).set i (some (.str ⟨#[c]⟩)) → tt env1 st = .ok (p (.str ⟨#[c]⟩)) st ∧ (p (.str ⟨#[c]⟩) = true → te env1 st = .ok (g (.str ⟨#[c]⟩)) st)) :
    flc false (fitems fe) (.one i) tt te [i] env st = .ok (.lst (((signs x).filter p).map g)) st := by
  unfold flc fitems
  rw [h0]
  simp only [bind_ok, itemsD]
  rw [lcL_pure (p := p) (g := g) rfl _ [] (fun d hd => ?_) (by simpa [Str.length] using hl)]
  · simp [signs]
  · obtain ⟨c, hc, rfl⟩ := List.mem_map.mp hd
    exact ⟨_, rfl, h c hc _ rfl⟩
theorem all_bls : ∀ bs : List Bool, blsOf (bs.map D.bl) = some bs
  | [] => rfl
  | b :: bs => by simp [blsOf, all_bls bs]
end DL
end
section
/-! DLQ3: ==, repr of plain data. -/
namespace DL
open PySem L2 PyProof.Rows
theorem toPS_good {d : D} (st : Store) (h : good d = true) : toPS st d = toP d := by
  cases d <;> first | rfl | cases h
theorem shaped_good {d : D} {p : PyData} (h : good d = true) (e : toP d = some p) (hd : dp d ≤ 64) : SeqAt.shaped p = true ∧ p.showable = true ∧ p.shown.length ≤ wt d := by
  obtain ⟨q, e1, h1, h2, h3, h4⟩ := good_P h
  rw [e] at e1
  cases e1
  refine ⟨?_, h1, h4⟩
  unfold SeqAt.shaped
  rw [h2, h3]
  simpa using hd
/-- == of plain data -/
theorem eq_good {x y : D} {p q : PyData} (neg : Bool) (st : Store) (hx : good x = true) (hy : good y = true) (dx : dp x ≤ 64) (dy : dp y ≤ 64) (ex : toP x = some p) (ey : toP y = some q) :
    eqD neg x y st = .ok (.bl (if neg then !PyData.eqv p q else PyData.eqv p q)) st := by
  unfold eqD
  rw [toPS_good st hx, toPS_good st hy, ex, ey]
  simp only [(shaped_good hx ex dx).1, (shaped_good hy ey dy).1, Bool.and_self, if_true]
theorem toPs_nil {ds : List D} {ps : List PyData} (e : toPs ds = some ps) : ps.isEmpty = ds.isEmpty := by
  cases ds with
  | nil => cases e; rfl
  | cons d ds =>
    unfold toPs at e
    split at e
    · cases e; rfl
    · cases e
theorem eqvAll_nil (ps : List PyData) : PyData.eqvAll ps [] = ps.isEmpty := by
  cases ps <;> simp [PyData.eqvAll]
theorem eq_nilL {ds : List D} (neg : Bool) (st : Store) (h : goods ds = true) (hd : dps ds ≤ 63) : eqD neg (.lst ds) (.lst []) st = .ok (.bl (if neg then !ds.isEmpty else ds.isEmpty)) st := by
  obtain ⟨ps, e, -⟩ := goods_P h
  rw [eq_good neg st (x := .lst ds) (y := .lst []) (p := .list ps) (q := .list []) h rfl (by simp only [dp]; omega) (by decide) (by simp [toP, e]) rfl]
  simp only [PyData.eqv, eqvAll_nil, toPs_nil e]
theorem eq_nilT {x : D} (neg : Bool) (st : Store) (h : good x = true) (hd : dp x ≤ 64) : eqD neg x (.tup []) st = .ok (.bl (if neg then !(match x with | .tup xs => xs.isEmpty | _ => false) else (match x with | .tup xs => xs.isEmpty | _ => false))) st := by
  obtain ⟨p, e, -⟩ := good_P h
  rw [eq_good neg st (y := .tup []) (q := .tuple []) h rfl hd (by decide) e rfl]
  cases x with
  | tup xs =>
    simp only [toP, Option.map_eq_some_iff] at e
    obtain ⟨ps, e1, rfl⟩ := e
    simp only [PyData.eqv, eqvAll_nil, toPs_nil e1]
  | lst xs =>
    simp only [toP, Option.map_eq_some_iff] at e
    obtain ⟨ps, e1, rfl⟩ := e
    simp only [PyData.eqv]
  | _ => first | (cases e; simp only [PyData.eqv]; done) | cases h
/-- repr of plain data -/
theorem repr_good {x : D} {p : PyData} (st : Store) (h : good x = true) (hd : dp x ≤ 64) (hw : wt x ≤ 16777216) (e : toP x = some p) : reprD [x] st = some (.str p.shown, st) := by
  unfold reprD
  dsimp only
  rw [toPS_good st h, e]
  obtain ⟨h1, h2, h3⟩ := shaped_good h e hd
  simp only [h1, h2, Bool.and_self, Bool.true_and, decide_eq_true_eq]
  rw [if_pos (by omega)]
/-! which texts are the repr of a word -/
theorem flat_id {q : Nat} {L : List Nat} (h92 : 92 ∉ L) : ∀ {l : List Nat}, l.flatMap (Builtin.Str.reprChar q) = L → l = L := by
  intro l e
  have one : ∀ c, Builtin.Str.reprChar q c = [c] ∨ 92 ∈ Builtin.Str.reprChar q c := fun c => by
    unfold Builtin.Str.reprChar
    dsimp only
    split
    · right; simp
    · split
      · right; simp
      · split
        · right; simp
        · split
          · right; simp
          · split
            · left; rfl
            · split
              · right; simp
              · split
                · right; simp
                · right; simp
  have all1 : ∀ c ∈ l, Builtin.Str.reprChar q c = [c] := fun c hc => by
    rcases one c with h | h
    · exact h
    · refine absurd ?_ h92
      rw [← e]
      exact List.mem_flatMap.mpr ⟨c, hc, h⟩
  rw [← e]
  clear e
  induction l with
  | nil => rfl
  | cons c l ih =>
    rw [List.flatMap_cons, all1 c List.mem_cons_self]
    simp only [List.cons_append, List.nil_append]
    congr 1
    exact ih fun c hc => all1 c (List.mem_cons_of_mem _ hc)
theorem foldl_flat (q : Nat) : ∀ (l : List Nat) (acc : Array Nat), (l.foldl (fun out c => out ++ (Builtin.Str.reprChar q c).toArray) acc).toList = acc.toList ++ l.flatMap (Builtin.Str.reprChar q)
  | [], acc => by simp
  | c :: l, acc => by
    rw [List.foldl_cons, foldl_flat q l, List.flatMap_cons]
    simp
theorem reprText_list (x : Str) : (reprText x).cps.toList = reprQuote x :: (x.cps.toList.flatMap (Builtin.Str.reprChar (reprQuote x)) ++ [reprQuote x]) := by
  unfold reprText
  simp only [Array.toList_push, ← Array.foldl_toList, foldl_flat]
  simp
/-- repr of a plain word w: between two ' -/
theorem repr_word {x : Str} {w : List Nat} (h92 : 92 ∉ w) (h : (reprText x).cps.toList = 39 :: (w ++ [39])) : x.cps.toList = w := by
  rw [reprText_list] at h
  simp only [List.cons.injEq] at h
  obtain ⟨h1, h2⟩ := h
  rw [h1] at h2
  exact flat_id h92 (List.append_cancel_right h2)
/-- whose repr is the text of such a word: that word alone -/
theorem shown_word {d : D} {p : PyData} {y : Str} {w : Str} (h92 : 92 ∉ w.cps.toList) (e : toP d = some p) (hy : y.cps.toList = 39 :: (w.cps.toList ++ [39])) (hr : reprText w = y) : (p.shown == y) = (match d with | .str x => x == w | _ => false) := by
  have key : ∀ {z : Str}, 39 ∉ z.cps.toList → (z == y) = false := fun {z} hz => by
    rw [beq_eq_false_iff_ne]
    rintro rfl
    exact hz (by rw [hy]; exact List.mem_cons_self)
  cases d with
  | non => cases e; exact key (by rw [PyData.shown_none]; decide +kernel)
  | bl b => cases e; exact key (by rw [PyData.shown_bool]; cases b <;> decide +kernel)
  | int i => cases e; exact key (by rw [PyData.shown_int]; exact fun h => (intText_free_39 i).mp h)
  | str x =>
    cases e
    show (reprText x == y) = (x == w)
    rw [Bool.eq_iff_iff, beq_iff_eq, beq_iff_eq]
    constructor
    · intro h
      refine str_ext (repr_word h92 ?_)
      rw [h, hy]
    · rintro rfl
      exact hr
  | tup xs =>
    simp only [toP, Option.map_eq_some_iff] at e
    obtain ⟨ps, e1, rfl⟩ := e
    show ((PyData.tuple ps).shown == y) = false
    rw [beq_eq_false_iff_ne]
    intro h
    have h2 := congrArg (fun s : Str => s.cps.toList.head?) h
    simp only [PyData.shown, hy, List.head?_cons] at h2
    unfold tupleText at h2
    have h3 : ((("(" : String) : Str) ++ Str.join ", " (PyData.shownAll ps) ++ ((if (PyData.shownAll ps).length == 1 then ",)" else ")" : String) : Str)).cps.toList.head? = some 40 := by
      simp only [Str.cps_append, Array.toList_append]
      rfl
    rw [h3] at h2
    cases h2
  | lst xs =>
    simp only [toP, Option.map_eq_some_iff] at e
    obtain ⟨ps, e1, rfl⟩ := e
    show ((PyData.list ps).shown == y) = false
    rw [beq_eq_false_iff_ne]
    intro h
    have h2 := congrArg (fun s : Str => s.cps.toList.head?) h
    simp only [PyData.shown, hy, List.head?_cons] at h2
    rw [listText_eq_join] at h2
    have h3 : ((("[" : String) : Str) ++ Str.join ", " (PyData.shownAll ps) ++ (("]" : String) : Str)).cps.toList.head? = some 91 := by
      simp only [Str.cps_append, Array.toList_append]
      rfl
    rw [h3] at h2
    cases h2
  | _ => cases e
end DL
end
section
/-! DLQ4: the texts of plain data are texts. -/
namespace DL
open PySem L2 PyProof.Rows
theorem ok_iff {x : Str} : PyData.strOk x = true ↔ ∀ c ∈ x.cps.toList, c < 0x110000 := by
  unfold PyData.strOk
  rw [Array.all_eq_true_iff_forall_mem]
  constructor
  · intro h c hc
    have := h c (by simpa using hc)
    exact of_decide_eq_true this
  · intro h c hc
    exact decide_eq_true (h c (by simpa using hc))
theorem ok_append {x y : Str} (h1 : PyData.strOk x = true) (h2 : PyData.strOk y = true) : PyData.strOk (x ++ y) = true := by
  rw [ok_iff] at h1 h2 ⊢
  intro c hc
  simp only [Str.cps_append, Array.toList_append] at hc
  rcases List.mem_append.mp hc with m | m
  · exact h1 c m
  · exact h2 c m
theorem ok_join : ∀ {ts : List Str}, (∀ t ∈ ts, PyData.strOk t = true) → PyData.strOk (Str.join ", " ts) = true
  | [], _ => by decide +kernel
  | [t], h => h t List.mem_cons_self
  | t :: u :: r, h => by
    show PyData.strOk (t ++ ", " ++ Str.join ", " (u :: r)) = true
    exact ok_append (ok_append (h t List.mem_cons_self) (by decide +kernel)) (ok_join fun x hx => h x (List.mem_cons_of_mem _ hx))
theorem ok_char {q c d : Nat} (hq : q < 0x110000) (hc : c < 0x110000) (h : d ∈ Builtin.Str.reprChar q c) : d < 0x110000 := by
  have hx : ∀ w, d ∈ List.replicate (w - ((Nat.toDigits 16 c).map Char.toNat).length) 48 ++ (Nat.toDigits 16 c).map Char.toNat → d < 0x110000 := by
    intro w m
    rcases List.mem_append.mp m with m | m
    · rw [List.mem_replicate] at m; omega
    · obtain ⟨ch, -, rfl⟩ := List.mem_map.mp m
      have := ch.valid
      have e : ch.toNat = ch.val.toNat := rfl
      rcases this with v | v
      · rw [e]
        have : ch.val.toNat < 0xd800 := v
        omega
      · rw [e]
        exact v.2
  unfold Builtin.Str.reprChar at h
  dsimp only at h
  split at h
  · simp at h; omega
  · split at h
    · simp at h; omega
    · split at h
      · simp at h; omega
      · split at h
        · simp at h; omega
        · split at h
          · simp at h; omega
          · split at h
            · rcases List.mem_append.mp h with m | m
              · simp at m; omega
              · exact hx 2 m
            · split at h
              · rcases List.mem_append.mp h with m | m
                · simp at m; omega
                · exact hx 4 m
              · rcases List.mem_append.mp h with m | m
                · simp at m; omega
                · exact hx 8 m
theorem quote_lt (x : Str) : reprQuote x < 0x110000 := by
  unfold reprQuote
  split <;> decide
theorem ok_repr {x : Str} (h : PyData.strOk x = true) : PyData.strOk (reprText x) = true := by
  rw [ok_iff] at h ⊢
  intro c hc
  rw [reprText_list] at hc
  rcases List.mem_cons.mp hc with rfl | m
  · exact quote_lt x
  · rcases List.mem_append.mp m with m | m
    · obtain ⟨d, hd, m⟩ := List.mem_flatMap.mp m
      exact ok_char (quote_lt x) (h d hd) m
    · simp at m
      subst m
      exact quote_lt x
mutual
theorem ok_shown : ∀ {p : PyData}, p.canLay0 = true → PyData.strOk p.shown = true
  | .none, _ => by rw [PyData.shown_none]; decide +kernel
  | .bool b, _ => by rw [PyData.shown_bool]; cases b <;> decide +kernel
  | .int i, _ => by
    rw [PyData.shown_int, ok_iff]
    intro c hc
    by_cases h : c < 0x110000
    · exact h
    · exact absurd hc (int_text_free' c ⟨by omega, by omega⟩ i)
  | .str x, h => by
    simp only [PyData.shown]
    exact ok_repr (by simpa [PyData.canLay0] using h)
  | .list xs, h => by
    simp only [PyData.shown]
    rw [listText_eq_join]
    exact ok_append (ok_append (by decide +kernel) (ok_join (oks_shown (by simpa [PyData.canLay0] using h)))) (by decide +kernel)
  | .tuple xs, h => by
    simp only [PyData.shown]
    unfold tupleText
    refine ok_append (ok_append (by decide +kernel) (ok_join (oks_shown (by simpa [PyData.canLay0] using h)))) ?_
    split <;> decide +kernel
  | .dict _, h => by simp [PyData.canLay0] at h
theorem oks_shown : ∀ {ps : List PyData}, PyData.canLayAll0 ps = true → ∀ t ∈ PyData.shownAll ps, PyData.strOk t = true
  | [], _, t, m => by simp [PyData.shownAll] at m
  | p :: ps, h, t, m => by
    simp only [PyData.canLayAll0, Bool.and_eq_true] at h
    simp only [PyData.shownAll, List.mem_cons] at m
    rcases m with rfl | m
    · exact ok_shown h.1
    · exact oks_shown h.2 t m
end
theorem eq_strD (neg : Bool) (w z : Str) (st : Store) (hw : PyData.strOk w = true) (hz : PyData.strOk z = true) : eqD neg (.str w) (.str z) st = .ok (.bl (if neg then !(w == z) else w == z)) st := by
  rw [eq_good neg st (x := .str w) (y := .str z) (p := .str w) (q := .str z) (by simpa [good] using hw) (by simpa [good] using hz) (by simp [dp]) (by simp [dp]) rfl rfl]
  simp only [PyData.eqv]
end DL
end
section
/-! DLQ5: upper of a text is a text; bounds of what is put together. -/
namespace DL
open PySem L2 PyProof.Rows
theorem placed_mem {x : Str} {f : Nat → Nat → List Nat} {d : Nat} (h : d ∈ (placed x f).toList) : ∃ i c, c ∈ x.cps.toList ∧ d ∈ f i c := by
  unfold placed at h
  rw [Array.toList_flatten] at h
  obtain ⟨l, hl, hd⟩ := List.mem_flatten.mp h
  obtain ⟨a, ha, rfl⟩ := List.mem_map.mp hl
  rw [Array.mem_toList_iff, Array.mem_mapIdx] at ha
  obtain ⟨i, hi, rfl⟩ := ha
  exact ⟨i, x.cps[i], by simp, by simpa using hd⟩
theorem shifted_lt : ∀ {l : List (Nat × Nat × Nat)} {c d : Nat}, (l.all fun q => decide (q.2.2 + (q.2.1 - q.1) < 0x110000)) = true → Unicode.shifted l c = some d → d < 0x110000
  | [], _, _, _, e => by cases e
  | (a, b, t) :: r, c, d, h, e => by
    rw [List.all_cons, Bool.and_eq_true, decide_eq_true_eq] at h
    unfold Unicode.shifted at e
    split at e
    · cases e
    · split at e
      · cases e
        have := h.1
        simp only at this
        omega
      · exact shifted_lt h.2 e
theorem upper_lt {c d : Nat} (hc : c < 0x110000) (h : d ∈ Unicode.upperOf c) : d < 0x110000 := by
  unfold Unicode.upperOf Unicode.image at h
  split at h
  · rename_i cs hl
    have := PySem.StrLaws.lookup_all (p := fun l => l.all fun d => decide (d < 0x110000)) UnicodeData.severalUpper c cs (by decide +kernel) hl
    rw [List.all_eq_true] at this
    exact of_decide_eq_true (this d h)
  · simp only [List.mem_singleton] at h
    cases hs : Unicode.shifted UnicodeData.oneUpper c with
    | none => rw [hs] at h; simp at h; omega
    | some e =>
      rw [hs] at h
      simp only [Option.getD_some] at h
      rw [h]
      exact shifted_lt (by decide +kernel) hs
theorem ok_upper {x : Str} (h : PyData.strOk x = true) : PyData.strOk (Txt.upper x) = true := by
  rw [ok_iff] at h ⊢
  intro d hd
  obtain ⟨i, c, hc, hd⟩ := placed_mem (show d ∈ (placed x fun _ c => Unicode.upperOf c).toList from hd)
  exact upper_lt (h c hc) hd
/-! parts of lists -/
theorem wts_sub {xs ys : List D} (h : List.Sublist xs ys) : wts xs ≤ wts ys := by
  induction h with
  | slnil => exact Nat.le_refl _
  | cons a _ ih => simp only [wts]; omega
  | cons_cons a _ ih => simp only [wts]; omega
theorem dps_sub {xs ys : List D} (h : List.Sublist xs ys) : dps xs ≤ dps ys := by
  induction h with
  | slnil => exact Nat.le_refl _
  | cons a _ ih => simp only [dps]; omega
  | cons_cons a _ ih => simp only [dps]; omega
theorem goods_sub {xs ys : List D} (h : List.Sublist xs ys) (g : goods ys = true) : goods xs = true := goods_all fun x hx => goods_mem g (h.subset hx)
theorem cut_sub (xs : List D) (lo hi : Option Int) : List.Sublist (cutD xs lo hi) xs := (List.take_sublist _ _).trans (List.drop_sublist _ _)
theorem wts_rev (xs : List D) : wts xs.reverse = wts xs := by
  induction xs with
  | nil => rfl
  | cons x r ih => rw [List.reverse_cons, wts_append, ih]; simp only [wts]; omega
theorem dps_rev (xs : List D) : dps xs.reverse = dps xs := by
  induction xs with
  | nil => rfl
  | cons x r ih => rw [List.reverse_cons, dps_append, ih]; simp only [dps]; omega
theorem goods_rev {xs : List D} (g : goods xs = true) : goods xs.reverse = true := goods_all fun x hx => goods_mem g (List.mem_reverse.mp hx)
theorem cutS_le (x : Str) (lo hi : Option Int) : (cutS x lo hi).length ≤ x.length ∧ (PyData.strOk x = true → PyData.strOk (cutS x lo hi) = true) := by
  have sub : List.Sublist (cutS x lo hi).cps.toList x.cps.toList := (List.take_sublist _ _).trans (List.drop_sublist _ _)
  refine ⟨?_, fun h => ?_⟩
  · have := sub.length_le
    simpa [Str.length] using this
  · rw [ok_iff] at h ⊢
    exact fun c hc => h c (sub.subset hc)
/-- data of some size: good, of weight w at most, d deep at most -/
structure Sz (x : D) (w d : Nat) : Prop where
  g : good x = true
  w : wt x ≤ w
  d : dp x ≤ d
theorem Sz.mono {x : D} {w d w' d' : Nat} (h : Sz x w d) (h1 : w ≤ w') (h2 : d ≤ d') : Sz x w' d' := ⟨h.g, Nat.le_trans h.w h1, Nat.le_trans h.d h2⟩
theorem atI_mem {xs : List D} {i : Int} (h0 : 0 ≤ i) (h1 : i < xs.length) : ∃ v ∈ xs, atI xs i = some v := by
  have hn : i.toNat < xs.length := by omega
  refine ⟨xs[i.toNat], List.getElem_mem hn, ?_⟩
  unfold atI ixN
  rw [if_pos h0, if_pos (by omega)]
  simp only [Option.bind_some]
  exact List.getElem?_eq_getElem hn
end DL
end
section
/-! DLQ6: objects behind others in a store. -/
namespace DL
open PySem L2 PyProof.Rows
section
variable {A : DO} {R T : Store} {a b c d x : DO}
theorem g1 : (A :: (R ++ a :: T))[R.length + 1]? = some a := by simp
theorem g2 : (A :: (R ++ a :: b :: T))[R.length + 2]? = some b := by
  simp [List.getElem?_append_right]
theorem g3 : (A :: (R ++ a :: b :: c :: T))[R.length + 3]? = some c := by
  simp [List.getElem?_append_right]
theorem g4 : (A :: (R ++ a :: b :: c :: d :: T))[R.length + 4]? = some d := by
  simp [List.getElem?_append_right]
theorem st1 : (A :: (R ++ a :: T)).set (R.length + 1) x = A :: (R ++ x :: T) := by simp [List.set_append]
theorem st2 : (A :: (R ++ a :: b :: T)).set (R.length + 2) x = A :: (R ++ a :: x :: T) := by simp [List.set_append]
theorem st3 : (A :: (R ++ a :: b :: c :: T)).set (R.length + 3) x = A :: (R ++ a :: b :: x :: T) := by simp [List.set_append]
theorem st4 : (A :: (R ++ a :: b :: c :: d :: T)).set (R.length + 4) x = A :: (R ++ a :: b :: c :: x :: T) := by simp [List.set_append]
theorem n0 : (A :: R).length = R.length + 1 := rfl
theorem n1 : (A :: (R ++ [a])).length = R.length + 2 := by simp
theorem n2 : (A :: (R ++ [a, b])).length = R.length + 3 := by simp
theorem n3 : (A :: (R ++ [a, b, c])).length = R.length + 4 := by simp
end
section
variable {st : Store} {n : Nat} {xs : List D} {kvs : List (Key × D)}
theorem o_ty (h : st[n]? = some (.lst xs)) : tyName st (.obj n) = some "list" := by
  unfold tyName; simp only [h]
theorem o_seq (h : st[n]? = some (.lst xs)) : seqL st (.obj n) = some xs := by
  unfold seqL; simp only [h]
theorem o_app (h : st[n]? = some (.lst xs)) (hl : xs.length < 16777216) (y : D) : appendD (.obj n) [y] st = some (.non, st.set n (.lst (xs ++ [y]))) := by
  unfold appendD lstAt
  simp only [h, if_pos hl]
theorem o_ext (h : st[n]? = some (.lst xs)) {ys : List D} {y : D} (hy : seqO st y = some ys) (hl : xs.length + ys.length ≤ 16777216) : extendD (.obj n) [y] st = some (.non, st.set n (.lst (xs ++ ys))) := by
  unfold extendD lstAt
  simp only [h, hy, if_pos hl]
theorem o_pop (h : st[n]? = some (.lst xs)) {i : Int} {v : D} (h0 : 0 ≤ i) (h1 : i < xs.length) (h2 : xs.length ≤ 16777216) (hv : xs[i.toNat]? = some v) : popAtD (.obj n) [.int i] st = some (v, st.set n (.lst (xs.eraseIdx i.toNat))) := by
  unfold popAtD lstAt
  simp only [h]
  rw [if_pos (by omega)]
  have e : seqIndex? i xs.length = some i.toNat := by
    unfold seqIndex?
    have hneg : ¬ i < 0 := by omega
    simp only [hneg, if_false, h0, h1, decide_true, Bool.and_self, if_true]
  rw [e]
  simp only [hv]
theorem o_len (h : st[n]? = some (.lst xs)) : lenD [.obj n] st = some (.int xs.length, st) := by
  show (match seqA st (.obj n) with | some xs => some (D.int xs.length, st) | none => none) = _
  have : seqA st (.obj n) = some xs := by
    show seqL st (.obj n) = _
    exact o_seq h
  rw [this]
theorem o_ix (h : st[n]? = some (.lst xs)) {i : Int} {v : D} (hv : atI xs i = some v) : ixD (.obj n) (.int i) st = .ok v st := by
  unfold ixD
  have e : dctO st (.obj n) = none := by unfold dctO; simp only [h]
  simp only [e]
  unfold ixSeq
  rw [o_seq h]
  simp only [hv]
theorem o_ne (h : st[n]? = some (.lst xs)) (g : goods xs = true) (hd : dps xs ≤ 63) : cmpD .NotEq (.obj n) (.lst []) st = .ok (.bl (!xs.isEmpty)) st := by
  have e := eq_nilL true st g hd
  show eqD true (.obj n) (.lst []) st = _
  have e1 : toPS st (.obj n) = toPS st (.lst xs) := by
    unfold toPS
    rw [o_seq h]
    rfl
  unfold eqD at e ⊢
  rw [e1]
  exact e
end
/-- a loop that goes through, by an invariant -/
theorem forL_inv {chk : Store → Bool} {g : FG} {body : FS} (P : Nat → Env' → Store → Prop) : ∀ (l : List D) (i : Nat) (env : Env') (st : Store),
    (∀ (j : Nat) (x : D) (env : Env') (st : Store), l[j]? = some x → P (i + j) env st → ∃ env1 st1, g x env st = some (env1, st1) ∧ ∃ env2 st2, body env1 st1 = .nx env2 st2 ∧ P (i + j + 1) env2 st2) →
    (∀ (j : Nat) (env : Env') (st : Store), P j env st → chk st = true) → P i env st → ∃ env' st', forL chk g body l env st = .nx env' st' ∧ P (i + l.length) env' st'
  | [], i, env, st, _, hc, h => ⟨env, st, by unfold forL; rw [if_pos (hc _ _ _ h)], h⟩
  | x :: l, i, env, st, hs, hc, h => by
    obtain ⟨env1, st1, e1, env2, st2, e2, h2⟩ := hs 0 x env st rfl h
    obtain ⟨env3, st3, e3, h3⟩ := forL_inv P l (i + 1) env2 st2 (fun j y env st hy hp => by
      have := hs (j + 1) y env st (by simpa using hy) (by rw [show i + (j + 1) = i + 1 + j by omega]; exact hp)
      rw [show i + 1 + j + 1 = i + (j + 1) + 1 by omega]
      exact this) hc h2
    refine ⟨env3, st3, ?_, by rw [show i + (x :: l).length = i + 1 + l.length by simp; omega]; exact h3⟩
    unfold forL
    rw [if_pos (hc _ _ _ h), e1]
    simp only [e2]
    exact e3
@[simp] theorem gtup_ {n : Nat} {fs : FGs} {ds : List D} {env : Env'} {st : Store} : gtup n fs (.tup ds) env st = if ds.length = n then fs ds env st else none := rfl
@[simp] theorem gcons_ {f : FG} {fs : FGs} {d : D} {ds : List D} {env : Env'} {st : Store} : gcons f fs (d :: ds) env st = match f d env st with
    | some (env1, st1) => fs ds env1 st1
    | none => none := by
  unfold gcons
  rfl
@[simp] theorem gnil_ {env : Env'} {st : Store} : gnil [] env st = some (env, st) := rfl
end DL
end
section
/-! The table of law_k01_kinds_told. -/
namespace DL.P
open PySem PySem.Spec L2
def top (i : Nat) : Stmt := PySem.Challenge.pw_lotback_k01_kinds_told.main.body.getD i (.Pass ⟨0, 0, 0, 0⟩)
def fe_is_number : FE := ⟨["thing"], ["thing"], defScope (top 5), defBody (top 5)⟩
def fe_is_amount : FE := ⟨["thing"], ["thing"], defScope (top 6), defBody (top 6)⟩
def fe_is_name : FE := ⟨["thing", "sign"], ["thing"], defScope (top 7), defBody (top 7)⟩
def fe_is_word_of : FE := ⟨["thing", "words"], ["thing", "words"], defScope (top 8), defBody (top 8)⟩
def fe_is_place : FE := ⟨["thing"], ["thing"], defScope (top 9), defBody (top 9)⟩
def fe_is_row : FE := ⟨["thing"], ["thing"], defScope (top 10), defBody (top 10)⟩
def fe_is_finding : FE := ⟨["thing"], ["thing"], defScope (top 11), defBody (top 11)⟩
def fe__law_feed : FE := ⟨["_law_script"], ["_law_script"], defScope (top 13), defBody (top 13)⟩
def fe__law_draw : FE := ⟨["_law_feed_here", "_law_many", "_law_at", "_law_cell", "_law_mixed", "_law_digit"], ["_law_feed_here", "_law_many"], defScope (top 14), defBody (top 14)⟩
def fe__law_count : FE := ⟨["_law_item"], ["_law_item"], defScope (top 15), defBody (top 15)⟩
def fe__law_named : FE := ⟨["_law_item", "_law_sign"], ["_law_item"], defScope (top 16), defBody (top 16)⟩
def fe__law_placed : FE := ⟨["_law_item"], ["_law_item"], defScope (top 17), defBody (top 17)⟩
def fe__law_formed : FE := ⟨["_law_item", "_law_plan", "_law_k", "_law_good"], ["_law_item"], defScope (top 18), defBody (top 18)⟩
def fe__law_found : FE := ⟨["_law_item"], ["_law_item"], defScope (top 19), defBody (top 19)⟩
def fe__law_book : FE := ⟨["_law_feed_here", "_law_size", "_law_menus", "_law_spots", "_law_names", "_law_k", "_law_stock", "_law_found_here", "_law_sold", "_law_way", "_law_pool", "_law_goal", "_law_n", "_law_one", "_law_source", "_law_s", "_law_name"], ["_law_feed_here", "_law_size"], defScope (top 20), defBody (top 20)⟩
def fe__law_notes : FE := ⟨["_law_feed_here", "_law_sheet", "_law_k", "_law_pool", "_law_found_here"], ["_law_feed_here", "_law_sheet"], defScope (top 21), defBody (top 21)⟩
def fe__law_case : FE := ⟨["_law_feed_here", "_law_size", "_law_sheet", "_law_some"], ["_law_feed_here", "_law_size"], defScope (top 22), defBody (top 22)⟩
def fe__law_odd : FE := ⟨["_law_feed_here", "_law_odd_here"], ["_law_feed_here"], defScope (top 23), defBody (top 23)⟩
def fe__law_bent : FE := ⟨["_law_feed_here", "_law_item", "_law_way", "_law_at", "_law_some"], ["_law_feed_here", "_law_item"], defScope (top 24), defBody (top 24)⟩
def fe__law_right : FE := ⟨["_law_item", "_law_told", "_law_due_in"], ["_law_item"], defScope (top 25), defBody (top 25)⟩
def fe__law_values : FE := ⟨["_law_far", "_law_found_here", "_law_rows_in", "_law_item", "_law_late"], [], defScope (top 26), defBody (top 26)⟩
def fe_law : FE := ⟨["_law_script", "_law_feed_here", "_law_items", "_law_page", "_law_item", "_law_kept", "_law_told", "_law_once"], ["_law_script"], defScope (top 27), defBody (top 27)⟩
def T : List (Str × FE) := [(("is_number" : Str), fe_is_number),
  (("is_amount" : Str), fe_is_amount),
  (("is_name" : Str), fe_is_name),
  (("is_word_of" : Str), fe_is_word_of),
  (("is_place" : Str), fe_is_place),
  (("is_row" : Str), fe_is_row),
  (("is_finding" : Str), fe_is_finding),
  (("_law_feed" : Str), fe__law_feed),
  (("_law_draw" : Str), fe__law_draw),
  (("_law_count" : Str), fe__law_count),
  (("_law_named" : Str), fe__law_named),
  (("_law_placed" : Str), fe__law_placed),
  (("_law_formed" : Str), fe__law_formed),
  (("_law_found" : Str), fe__law_found),
  (("_law_book" : Str), fe__law_book),
  (("_law_notes" : Str), fe__law_notes),
  (("_law_case" : Str), fe__law_case),
  (("_law_odd" : Str), fe__law_odd),
  (("_law_bent" : Str), fe__law_bent),
  (("_law_right" : Str), fe__law_right),
  (("_law_values" : Str), fe__law_values),
  (("law" : Str), fe_law)]
def shapes : List ((Str × Nat × List Str) × List Nat) := [(((("_law_book" : Str), (2 : Nat), ([] : List Str)), ([0, 1] : List Nat))),
  (((("_law_draw" : Str), (2 : Nat), ([] : List Str)), ([0, 1] : List Nat))),
  (((("_law_odd" : Str), (1 : Nat), ([] : List Str)), ([0] : List Nat))),
  (((("_law_feed" : Str), (1 : Nat), ([] : List Str)), ([0] : List Nat))),
  (((("_law_case" : Str), (2 : Nat), ([] : List Str)), ([0, 1] : List Nat))),
  (((("is_number" : Str), (1 : Nat), ([] : List Str)), ([0] : List Nat))),
  (((("is_name" : Str), (1 : Nat), ([] : List Str)), ([0] : List Nat))),
  (((("is_word_of" : Str), (2 : Nat), ([] : List Str)), ([0, 1] : List Nat))),
  (((("_law_named" : Str), (1 : Nat), ([] : List Str)), ([0] : List Nat))),
  (((("_law_count" : Str), (1 : Nat), ([] : List Str)), ([0] : List Nat))),
  (((("_law_notes" : Str), (2 : Nat), ([] : List Str)), ([0, 1] : List Nat))),
  (((("is_place" : Str), (1 : Nat), ([] : List Str)), ([0] : List Nat))),
  (((("is_row" : Str), (1 : Nat), ([] : List Str)), ([0] : List Nat))),
  (((("is_finding" : Str), (1 : Nat), ([] : List Str)), ([0] : List Nat))),
  (((("_law_placed" : Str), (1 : Nat), ([] : List Str)), ([0] : List Nat))),
  (((("_law_formed" : Str), (1 : Nat), ([] : List Str)), ([0] : List Nat))),
  (((("_law_found" : Str), (1 : Nat), ([] : List Str)), ([0] : List Nat))),
  (((("_law_values" : Str), (0 : Nat), ([] : List Str)), ([] : List Nat))),
  (((("_law_bent" : Str), (2 : Nat), ([] : List Str)), ([0, 1] : List Nat))),
  (((("is_number" : Str), (0 : Nat), (["thing"] : List Str)), ([0] : List Nat))),
  (((("is_name" : Str), (0 : Nat), (["thing"] : List Str)), ([0] : List Nat))),
  (((("is_place" : Str), (0 : Nat), (["thing"] : List Str)), ([0] : List Nat))),
  (((("is_row" : Str), (0 : Nat), (["thing"] : List Str)), ([0] : List Nat))),
  (((("is_amount" : Str), (1 : Nat), ([] : List Str)), ([0] : List Nat))),
  (((("is_finding" : Str), (0 : Nat), (["thing"] : List Str)), ([0] : List Nat))),
  (((("_law_right" : Str), (1 : Nat), ([] : List Str)), ([0] : List Nat)))]
def sh (x : Str) (n : Nat) (ks : List Str) : Option (List Nat) := shapes.lookup (x, n, ks)
def Gs : List (Str × GV) := [(("LETTERS" : Str), (.val (.str "abcdefghijklmnopqrstuvwxyz") : GV)),
  (("LONGEST" : Str), (.val (.int 8) : GV)),
  (("PLACE_KINDS" : Str), (.val (.tup [.str "heap", .str "pipe"]) : GV)),
  (("FINDING_WORDS" : Str), (.val (.tup [.str "bad", .str "clean"]) : GV)),
  (("is_number" : Str), (.fn : GV)),
  (("is_amount" : Str), (.fn : GV)),
  (("is_name" : Str), (.fn : GV)),
  (("is_word_of" : Str), (.fn : GV)),
  (("is_place" : Str), (.fn : GV)),
  (("is_row" : Str), (.fn : GV)),
  (("is_finding" : Str), (.fn : GV)),
  (("_law_feed" : Str), (.fn : GV)),
  (("_law_draw" : Str), (.fn : GV)),
  (("_law_count" : Str), (.fn : GV)),
  (("_law_named" : Str), (.fn : GV)),
  (("_law_placed" : Str), (.fn : GV)),
  (("_law_formed" : Str), (.fn : GV)),
  (("_law_found" : Str), (.fn : GV)),
  (("_law_book" : Str), (.fn : GV)),
  (("_law_notes" : Str), (.fn : GV)),
  (("_law_case" : Str), (.fn : GV)),
  (("_law_odd" : Str), (.fn : GV)),
  (("_law_bent" : Str), (.fn : GV)),
  (("_law_right" : Str), (.fn : GV)),
  (("_law_values" : Str), (.fn : GV)),
  (("law" : Str), (.fn : GV)),
  (("all" : Str), (.blt "all" : GV)),
  (("isinstance" : Str), (.blt "isinstance" : GV)),
  (("len" : Str), (.blt "len" : GV)),
  (("max" : Str), (.blt "max" : GV)),
  (("min" : Str), (.blt "min" : GV)),
  (("ord" : Str), (.blt "ord" : GV)),
  (("repr" : Str), (.blt "repr" : GV)),
  (("sorted" : Str), (.blt "sorted" : GV)),
  (("bool" : Str), (.typ "bool" : GV)),
  (("dict" : Str), (.typ "dict" : GV)),
  (("int" : Str), (.typ "int" : GV)),
  (("list" : Str), (.typ "list" : GV)),
  (("range" : Str), (.typ "range" : GV)),
  (("str" : Str), (.typ "str" : GV)),
  (("tuple" : Str), (.typ "tuple" : GV))]
def G (x : Str) : Option GV := Gs.lookup x
def mus : List Pos := [⟨72, 17, 72, 125⟩, ⟨76, 98, 76, 100⟩, ⟨76, 102, 76, 104⟩, ⟨101, 34, 101, 65⟩, ⟨101, 67, 101, 69⟩, ⟨132, 22, 132, 139⟩, ⟨150, 17, 150, 63⟩]
def mu (p : Pos) : Bool := mus.any fun r => r.line == p.line && r.col == p.col && r.endLine == p.endLine && r.endCol == p.endCol
end DL.P
end
section
namespace DL.P
open PySem L2
def C (k : Nat) : EC := ⟨G, calOf T sh G mu 100 k, mu⟩
abbrev run (k : Nat) (f : FE) : Sem1 := runFE (C k) 100 f
def cl (k : Nat) (f : FE) (perm : List Nat) : Sem1 := fun ds st => if (pick perm ds).length = f.ps.length then run k f (pick perm ds) st else none
def m_is_number (k : Nat) : FS := (fseq (fret (fandV (fcallO isiD (fcons (fvar 0) (fcons (fcon (.ty "int")) fnil))) (fandV (fnotV (fcallO isiD (fcons (fvar 0) (fcons (fcon (.ty "bool")) fnil)))) (fbin (cmpD .GtE) (fvar 0) (fcon (.int 0))))))
 fskip)
theorem mir_is_number (k : Nat) : exSs (C (k + 1)) ⟨fe_is_number.N, fe_is_number.sc, fun _ => true⟩ 100 fe_is_number.body = m_is_number k := by kernel_rfl
theorem run_is_number (k : Nat) (x0 : D) (st : Store) : run (k + 1) fe_is_number [x0] st = endD (m_is_number k [some x0] st) := by
  rw [← mir_is_number]
  kernel_rfl
def m_is_amount (k : Nat) : FS := (fseq (fret (fandV (fcallO (cl k fe_is_number [0]) (fapp (fcons (fvar 0) fnil) fnil)) (fbin (cmpD .Gt) (fvar 0) (fcon (.int 0)))))
 fskip)
theorem mir_is_amount (k : Nat) : exSs (C (k + 1)) ⟨fe_is_amount.N, fe_is_amount.sc, fun _ => true⟩ 100 fe_is_amount.body = m_is_amount k := by kernel_rfl
theorem run_is_amount (k : Nat) (x0 : D) (st : Store) : run (k + 1) fe_is_amount [x0] st = endD (m_is_amount k [some x0] st) := by
  rw [← mir_is_amount]
  kernel_rfl
def m_is_name (k : Nat) : FS := (fseq (fifS (for_ (fnot (ftru (fcallO isiD (fcons (fvar 0) (fcons (fcon (.ty "str")) fnil))))) (fnot (fbool (fchain (cmpD .LtE) (cmpD .LtE) (fcon (.int 1)) (fcallO lenD (fcons (fvar 0) fnil)) (fcon (.int 8))))))
  (fseq (fret (fcon (.bl false)))
  fskip)
  fskip)
 (fseq (fret (fcallO (allD false) (fcons (flc false (fitems (fvar 0)) (.one 1) ftrue (fbin (cmpD .In) (fvar 1) (fcon (.str "abcdefghijklmnopqrstuvwxyz"))) [1]) fnil)))
 fskip))
theorem mir_is_name (k : Nat) : exSs (C (k + 1)) ⟨fe_is_name.N, fe_is_name.sc, fun _ => true⟩ 100 fe_is_name.body = m_is_name k := by kernel_rfl
theorem run_is_name (k : Nat) (x0 : D) (st : Store) : run (k + 1) fe_is_name [x0] st = endD (m_is_name k [some x0, none] st) := by
  rw [← mir_is_name]
  kernel_rfl
def m_is_word_of (k : Nat) : FS := (fseq (fret (fandV (fcallO isiD (fcons (fvar 0) (fcons (fcon (.ty "str")) fnil))) (fbin (cmpD .In) (fvar 0) (fvar 1))))
 fskip)
theorem mir_is_word_of (k : Nat) : exSs (C (k + 1)) ⟨fe_is_word_of.N, fe_is_word_of.sc, fun _ => true⟩ 100 fe_is_word_of.body = m_is_word_of k := by kernel_rfl
theorem run_is_word_of (k : Nat) (x0 x1 : D) (st : Store) : run (k + 1) fe_is_word_of [x0, x1] st = endD (m_is_word_of k [some x0, some x1] st) := by
  rw [← mir_is_word_of]
  kernel_rfl
def m_is_place (k : Nat) : FS := (fseq (fret (fandV (fcallO isiD (fcons (fvar 0) (fcons (fcon (.ty "tuple")) fnil))) (fandV (fbin (cmpD .Eq) (fcallO lenD (fcons (fvar 0) fnil)) (fcon (.int 2))) (fandV (fcallO (cl k fe_is_name [0]) (fapp (fcons (fbin ixD (fvar 0) (fcon (.int 0))) fnil) fnil)) (fcallO (cl k fe_is_word_of [0, 1]) (fapp (fcons (fbin ixD (fvar 0) (fcon (.int 1))) (fcons (fcon (.tup [(.str "heap"), (.str "pipe")])) fnil)) fnil))))))
 fskip)
theorem mir_is_place (k : Nat) : exSs (C (k + 1)) ⟨fe_is_place.N, fe_is_place.sc, fun _ => true⟩ 100 fe_is_place.body = m_is_place k := by kernel_rfl
theorem run_is_place (k : Nat) (x0 : D) (st : Store) : run (k + 1) fe_is_place [x0] st = endD (m_is_place k [some x0] st) := by
  rw [← mir_is_place]
  kernel_rfl
def m_is_row (k : Nat) : FS := (fseq (fifS (for_ (fnot (ftru (fcallO isiD (fcons (fvar 0) (fcons (fcon (.ty "tuple")) fnil))))) (for_ (fbool (fbin (cmpD .Eq) (fcallO lenD (fcons (fvar 0) fnil)) (fcon (.int 0)))) (fnot (ftru (fcallO isiD (fcons (fbin ixD (fvar 0) (fcon (.int 0))) (fcons (fcon (.ty "str")) fnil)))))))
  (fseq (fret (fcon (.bl false)))
  fskip)
  fskip)
 (fseq (fmatch (fbin ixD (fvar 0) (fcon (.int 0)))
  (fcaseOr ["come", "move"] (fseq (fret (fandV (fbin (cmpD .Eq) (fcallO lenD (fcons (fvar 0) fnil)) (fcon (.int 4))) (fandV (fcallO (cl k fe_is_name [0]) (fapp (fcons (fbin ixD (fvar 0) (fcon (.int 1))) fnil) fnil)) (fandV (fcallO (cl k fe_is_name [0]) (fapp (fcons (fbin ixD (fvar 0) (fcon (.int 2))) fnil) fnil)) (fcallO (cl k fe_is_amount [0]) (fapp (fcons (fbin ixD (fvar 0) (fcon (.int 3))) fnil) fnil))))))
  fskip)
  (fcaseOr ["sell", "waste"] (fseq (fret (fandV (fbin (cmpD .Eq) (fcallO lenD (fcons (fvar 0) fnil)) (fcon (.int 3))) (fandV (fcallO (cl k fe_is_name [0]) (fapp (fcons (fbin ixD (fvar 0) (fcon (.int 1))) fnil) fnil)) (fcallO (cl k fe_is_amount [0]) (fapp (fcons (fbin ixD (fvar 0) (fcon (.int 2))) fnil) fnil)))))
  fskip)
  (fcase1 "back" (fseq (fret (fandV (fbin (cmpD .Eq) (fcallO lenD (fcons (fvar 0) fnil)) (fcon (.int 3))) (fandV (fcallO (cl k fe_is_number [0]) (fapp (fcons (fbin ixD (fvar 0) (fcon (.int 1))) fnil) fnil)) (fcallO (cl k fe_is_name [0]) (fapp (fcons (fbin ixD (fvar 0) (fcon (.int 2))) fnil) fnil)))))
  fskip)
  (fcaseAny (fseq (fret (fcon (.bl false)))
  fskip)
  (fun _ => fskip))))))
 fskip))
theorem mir_is_row (k : Nat) : exSs (C (k + 1)) ⟨fe_is_row.N, fe_is_row.sc, fun _ => true⟩ 100 fe_is_row.body = m_is_row k := by kernel_rfl
theorem run_is_row (k : Nat) (x0 : D) (st : Store) : run (k + 1) fe_is_row [x0] st = endD (m_is_row k [some x0] st) := by
  rw [← mir_is_row]
  kernel_rfl
def m_is_finding (k : Nat) : FS := (fseq (fret (fandV (fcallO isiD (fcons (fvar 0) (fcons (fcon (.ty "tuple")) fnil))) (fandV (fbin (cmpD .Eq) (fcallO lenD (fcons (fvar 0) fnil)) (fcon (.int 2))) (fandV (fcallO (cl k fe_is_word_of [0, 1]) (fapp (fcons (fbin ixD (fvar 0) (fcon (.int 0))) (fcons (fcon (.tup [(.str "bad"), (.str "clean")])) fnil)) fnil)) (fcallO (cl k fe_is_number [0]) (fapp (fcons (fbin ixD (fvar 0) (fcon (.int 1))) fnil) fnil))))))
 fskip)
theorem mir_is_finding (k : Nat) : exSs (C (k + 1)) ⟨fe_is_finding.N, fe_is_finding.sc, fun _ => true⟩ 100 fe_is_finding.body = m_is_finding k := by kernel_rfl
theorem run_is_finding (k : Nat) (x0 : D) (st : Store) : run (k + 1) fe_is_finding [x0] st = endD (m_is_finding k [some x0] st) := by
  rw [← mir_is_finding]
  kernel_rfl
def m__law_feed (k : Nat) : FS := (fseq (fret (fdict [((fcon (.str "cells")), (fcallO (listD false) (fcons (fslice false (fvar 0) fpartN (fpart (fcon (.int 63)))) fnil))), ((fcon (.str "at")), (fcon (.int 0))), ((fcon (.str "left")), (fcon (.int 0))), ((fcon (.str "count")), (fcon (.int 0)))]))
 fskip)
theorem mir__law_feed (k : Nat) : exSs (C (k + 1)) ⟨fe__law_feed.N, fe__law_feed.sc, fun _ => true⟩ 100 fe__law_feed.body = m__law_feed k := by kernel_rfl
theorem run__law_feed (k : Nat) (x0 : D) (st : Store) : run (k + 1) fe__law_feed [x0] st = endD (m__law_feed k [some x0] st) := by
  rw [← mir__law_feed]
  kernel_rfl
def m__law_draw (k : Nat) : FS := (fseq (fasg (fbin (binD2 .Add) (fbin ixD (fvar 0) (fcon (.str "count"))) (fcon (.int 1))) (gsub (fvar 0) (fcon (.str "count"))))
 (fseq (fifS (fbool (fbin (cmpD .Gt) (fbin ixD (fvar 0) (fcon (.str "left"))) (fcon (.int 0))))
  (fseq (fasg (fbin (binD2 .Mod) (fcallO intD (fcons (fbin ixD (fvar 0) (fcon (.str "left"))) fnil)) (fvar 1)) (gname 5))
  (fseq (fasg (fbin (binD2 .FloorDiv) (fbin ixD (fvar 0) (fcon (.str "left"))) (fvar 1)) (gsub (fvar 0) (fcon (.str "left"))))
  (fseq (fret (fvar 5))
  fskip)))
  fskip)
 (fseq (fasg (fbin ixD (fvar 0) (fcon (.str "at"))) (gname 2))
 (fseq (fasg (fbin (binD2 .Add) (fvar 2) (fcon (.int 1))) (gsub (fvar 0) (fcon (.str "at"))))
 (fseq (fasg (fif (fbool (fbin (cmpD .NotEq) (fbin ixD (fvar 0) (fcon (.str "cells"))) (flst false fnil))) (fbin ixD (fbin ixD (fvar 0) (fcon (.str "cells"))) (fbin (binD2 .Mod) (fcallO intD (fcons (fvar 2) fnil)) (fcallO lenD (fcons (fbin ixD (fvar 0) (fcon (.str "cells"))) fnil)))) (fcon (.int 67))) (gname 3))
 (fseq (fifS (fand (fbool (fbin (cmpD .GtE) (fvar 3) (fbin (binD2 .Pow) (fcon (.int 10)) (fcon (.int 18))))) (fbool (fbin (cmpD .Lt) (fvar 2) (fcallO lenD (fcons (fbin ixD (fvar 0) (fcon (.str "cells"))) fnil)))))
  (fseq (fasg (fbin (binD2 .FloorDiv) (fvar 3) (fvar 1)) (gsub (fvar 0) (fcon (.str "left"))))
  (fseq (fret (fbin (binD2 .Mod) (fcallO intD (fcons (fvar 3) fnil)) (fvar 1)))
  fskip))
  fskip)
 (fseq (fasg (fbin (binD2 .Mod) (fcallO intD (fcons (fbin (binD2 .Add) (fbin (binD2 .Add) (fbin (binD2 .Mod) (fcallO intD (fcons (fvar 3) fnil)) (fcon (.int 1000000321))) (fbin (binD2 .Mult) (fcon (.int 110017)) (fbin ixD (fvar 0) (fcon (.str "count"))))) (fcon (.int 47))) fnil)) (fcon (.int 2147483477))) (gname 4))
 (fseq (fasg (fbin (binD2 .Mod) (fcallO intD (fcons (fbin (binD2 .Add) (fbin (binD2 .Add) (fbin (binD2 .Mult) (fvar 4) (fvar 4)) (fbin (binD2 .Mult) (fcon (.int 4100021)) (fbin ixD (fvar 0) (fcon (.str "count"))))) (fcon (.int 31))) fnil)) (fcon (.int 2147483423))) (gname 4))
 (fseq (fret (fbin (binD2 .Mod) (fcallO intD (fcons (fbin (binD2 .FloorDiv) (fbin (binD2 .Mod) (fcallO intD (fcons (fbin (binD2 .Add) (fbin (binD2 .Mult) (fvar 4) (fvar 4)) (fbin (binD2 .Mult) (fcon (.int 101)) (fvar 4))) fnil)) (fcon (.int 2147483399))) (fcon (.int 16))) fnil)) (fvar 1)))
 fskip)))))))))
theorem mir__law_draw (k : Nat) : exSs (C (k + 1)) ⟨fe__law_draw.N, fe__law_draw.sc, fun _ => true⟩ 100 fe__law_draw.body = m__law_draw k := by kernel_rfl
theorem run__law_draw (k : Nat) (x0 x1 : D) (st : Store) : run (k + 1) fe__law_draw [x0, x1] st = endD (m__law_draw k [some x0, some x1, none, none, none, none] st) := by
  rw [← mir__law_draw]
  kernel_rfl
def m__law_count (k : Nat) : FS := (fseq (fret (fandV (fcallO isiD (fcons (fvar 0) (fcons (fcon (.ty "int")) fnil))) (fandV (fnotV (fcallO isiD (fcons (fvar 0) (fcons (fcon (.ty "bool")) fnil)))) (fbin (cmpD .GtE) (fvar 0) (fcon (.int 0))))))
 fskip)
theorem mir__law_count (k : Nat) : exSs (C (k + 1)) ⟨fe__law_count.N, fe__law_count.sc, fun _ => true⟩ 100 fe__law_count.body = m__law_count k := by kernel_rfl
theorem run__law_count (k : Nat) (x0 : D) (st : Store) : run (k + 1) fe__law_count [x0] st = endD (m__law_count k [some x0] st) := by
  rw [← mir__law_count]
  kernel_rfl
def m__law_named (k : Nat) : FS := (fseq (fifS (for_ (fnot (ftru (fcallO isiD (fcons (fvar 0) (fcons (fcon (.ty "str")) fnil))))) (fnot (fbool (fchain (cmpD .Lt) (cmpD .Lt) (fcon (.int 0)) (fcallO lenD (fcons (fvar 0) fnil)) (fcon (.int 9))))))
  (fseq (fret (fcon (.bl false)))
  fskip)
  fskip)
 (fseq (fret (fbin (cmpD .Eq) (flc false (fitems (fvar 0)) (.one 1) (fnot (fbool (fchain (cmpD .LtE) (cmpD .LtE) (fcon (.int 97)) (fcallO ordD (fcons (fvar 1) fnil)) (fcon (.int 122))))) (fvar 1) [1]) (flst false fnil)))
 fskip))
theorem mir__law_named (k : Nat) : exSs (C (k + 1)) ⟨fe__law_named.N, fe__law_named.sc, fun _ => true⟩ 100 fe__law_named.body = m__law_named k := by kernel_rfl
theorem run__law_named (k : Nat) (x0 : D) (st : Store) : run (k + 1) fe__law_named [x0] st = endD (m__law_named k [some x0, none] st) := by
  rw [← mir__law_named]
  kernel_rfl
def m__law_placed (k : Nat) : FS := (fseq (fret (fandV (fcallO isiD (fcons (fvar 0) (fcons (fcon (.ty "tuple")) fnil))) (fandV (fbin (cmpD .Eq) (fcallO lenD (fcons (fvar 0) fnil)) (fcon (.int 2))) (fandV (fcallO (cl k fe__law_named [0]) (fapp (fcons (fbin ixD (fvar 0) (fcon (.int 0))) fnil) fnil)) (fbin (cmpD .In) (fcallO reprD (fcons (fbin ixD (fvar 0) (fcon (.int 1))) fnil)) (ftup (fcons (fcon (.str "'heap'")) (fcons (fcon (.str "'pipe'")) fnil))))))))
 fskip)
theorem mir__law_placed (k : Nat) : exSs (C (k + 1)) ⟨fe__law_placed.N, fe__law_placed.sc, fun _ => true⟩ 100 fe__law_placed.body = m__law_placed k := by kernel_rfl
theorem run__law_placed (k : Nat) (x0 : D) (st : Store) : run (k + 1) fe__law_placed [x0] st = endD (m__law_placed k [some x0] st) := by
  rw [← mir__law_placed]
  kernel_rfl
def m__law_formed (k : Nat) : FS := (fseq (fifS (for_ (fnot (ftru (fcallO isiD (fcons (fvar 0) (fcons (fcon (.ty "tuple")) fnil))))) (for_ (fbool (fbin (cmpD .Eq) (fvar 0) (ftup fnil))) (fnot (ftru (fcallO isiD (fcons (fbin ixD (fvar 0) (fcon (.int 0))) (fcons (fcon (.ty "str")) fnil)))))))
  (fseq (fret (fcon (.bl false)))
  fskip)
  fskip)
 (fseq (fasg (fmeth "dict" getD1 (fdict [((fcon (.str "come")), (fcon (.str "ssn"))), ((fcon (.str "move")), (fcon (.str "ssn"))), ((fcon (.str "sell")), (fcon (.str "sn"))), ((fcon (.str "waste")), (fcon (.str "sn"))), ((fcon (.str "back")), (fcon (.str "cs")))]) (fcons (fbin ixD (fvar 0) (fcon (.int 0))) fnil)) (gname 1))
 (fseq (fifS (for_ (fbool (fbin (cmpD .Is) (fvar 1) (fcon .non))) (fbool (fbin (cmpD .NotEq) (fcallO lenD (fcons (fvar 0) fnil)) (fbin (binD2 .Add) (fcallO lenD (fcons (fvar 1) fnil)) (fcon (.int 1))))))
  (fseq (fret (fcon (.bl false)))
  fskip)
  fskip)
 (fseq (ffor (frange1 (fcallO lenD (fcons (fvar 1) fnil))) (gname 2)
  (fseq (fasg (fif (fbool (fbin (cmpD .Eq) (fbin ixD (fvar 1) (fvar 2)) (fcon (.str "s")))) (fcallO (cl k fe__law_named [0]) (fapp (fcons (fbin ixD (fvar 0) (fbin (binD2 .Add) (fvar 2) (fcon (.int 1)))) fnil) fnil)) (fcallO (cl k fe__law_count [0]) (fapp (fcons (fbin ixD (fvar 0) (fbin (binD2 .Add) (fvar 2) (fcon (.int 1)))) fnil) fnil))) (gname 3))
  (fseq (fifS (for_ (fnot (ftru (fvar 3))) (fand (fbool (fbin (cmpD .Eq) (fbin ixD (fvar 1) (fvar 2)) (fcon (.str "n")))) (fbool (fbin (cmpD .Lt) (fbin ixD (fvar 0) (fbin (binD2 .Add) (fvar 2) (fcon (.int 1)))) (fcon (.int 1))))))
   (fseq (fret (fcon (.bl false)))
   fskip)
   fskip)
  fskip)))
 (fseq (fret (fcon (.bl true)))
 fskip)))))
theorem mir__law_formed (k : Nat) : exSs (C (k + 1)) ⟨fe__law_formed.N, fe__law_formed.sc, fun _ => true⟩ 100 fe__law_formed.body = m__law_formed k := by kernel_rfl
theorem run__law_formed (k : Nat) (x0 : D) (st : Store) : run (k + 1) fe__law_formed [x0] st = endD (m__law_formed k [some x0, none, none, none] st) := by
  rw [← mir__law_formed]
  kernel_rfl
def m__law_found (k : Nat) : FS := (fseq (fret (fandV (fcallO isiD (fcons (fvar 0) (fcons (fcon (.ty "tuple")) fnil))) (fandV (fbin (cmpD .Eq) (fcallO lenD (fcons (fvar 0) fnil)) (fcon (.int 2))) (fandV (fbin (cmpD .In) (fcallO reprD (fcons (fbin ixD (fvar 0) (fcon (.int 0))) fnil)) (ftup (fcons (fcon (.str "'bad'")) (fcons (fcon (.str "'clean'")) fnil)))) (fcallO (cl k fe__law_count [0]) (fapp (fcons (fbin ixD (fvar 0) (fcon (.int 1))) fnil) fnil))))))
 fskip)
theorem mir__law_found (k : Nat) : exSs (C (k + 1)) ⟨fe__law_found.N, fe__law_found.sc, fun _ => true⟩ 100 fe__law_found.body = m__law_found k := by kernel_rfl
theorem run__law_found (k : Nat) (x0 : D) (st : Store) : run (k + 1) fe__law_found [x0] st = endD (m__law_found k [some x0] st) := by
  rw [← mir__law_found]
  kernel_rfl
def m__law_book (k : Nat) : FS := (fseq (fasg (flst true (fcons (ftup (fcons (ftup (fcons (fcon (.str "line")) (fcons (fcon (.str "pipe")) fnil))) (fcons (ftup (fcons (fcon (.str "tank")) (fcons (fcon (.str "heap")) fnil))) fnil))) (fcons (ftup (fcons (ftup (fcons (fcon (.str "a")) (fcons (fcon (.str "pipe")) fnil))) (fcons (ftup (fcons (fcon (.str "few")) (fcons (fcon (.str "heap")) fnil))) (fcons (ftup (fcons (fcon (.str "move")) (fcons (fcon (.str "pipe")) fnil))) fnil)))) (fcons (ftup (fcons (ftup (fcons (fcon (.str "b")) (fcons (fcon (.str "heap")) fnil))) fnil)) fnil)))) (gname 2))
 (fseq (fdrop (fmeth "list" extendD (fvar 2) (fcons (flst false (fcons (ftup (fcons (ftup (fcons (fcon (.str "p")) (fcons (fcon (.str "pipe")) fnil))) (fcons (ftup (fcons (fcon (.str "q")) (fcons (fcon (.str "pipe")) fnil))) fnil))) (fcons (ftup (fcons (ftup (fcons (fcon (.str "a")) (fcons (fcon (.str "heap")) fnil))) (fcons (ftup (fcons (fcon (.str "b")) (fcons (fcon (.str "pipe")) fnil))) (fcons (ftup (fcons (fcon (.str "c")) (fcons (fcon (.str "heap")) fnil))) (fcons (ftup (fcons (fcon (.str "d")) (fcons (fcon (.str "pipe")) fnil))) fnil))))) fnil))) fnil)))
 (fseq (fasg (fbin ixD (fvar 2) (fcallO (cl k fe__law_draw [0, 1]) (fapp (fcons (fvar 0) (fcons (fcon (.int 5)) fnil)) fnil))) (gname 3))
 (fseq (fasg (flc false (fitems (fvar 3)) (.one 13) ftrue (fbin ixD (fvar 13) (fcon (.int 0))) [13]) (gname 4))
 (fseq (fasg (ftup (fcons (fcallO dictD (fcons (flc false (fitems (fvar 4)) (.one 16) ftrue (ftup (fcons (fvar 16) (fcons (fcon (.int 0)) fnil))) [16]) fnil)) (fcons (flst true fnil) (fcons (flst true fnil) fnil)))) (gtup 3 (gcons (gname 6) (gcons (gname 7) (gcons (gname 8) gnil)))))
 (fseq (ffor (frange1 (fvar 1)) (gname 5)
  (fseq (fasg (fcallO (cl k fe__law_draw [0, 1]) (fapp (fcons (fvar 0) (fcons (fcon (.int 9)) fnil)) fnil)) (gname 9))
  (fseq (fasg (fif (fbool (fchain (cmpD .Lt) (cmpD .Lt) (fcon (.int 2)) (fvar 9) (fcon (.int 8)))) (flc false (fitems (fvar 4)) (.one 16) (fbool (fbin (cmpD .Gt) (fbin ixD (fvar 6) (fvar 16)) (fcon (.int 0)))) (fvar 16) [16]) (flst false fnil)) (gname 10))
  (fseq (fasg (fif (fbool (fbin (cmpD .NotEq) (fvar 10) (flst false fnil))) (fvar 10) (fvar 4)) (gname 10))
  (fseq (fasg (ftup (fcons (fbin ixD (fvar 10) (fcallO (cl k fe__law_draw [0, 1]) (fapp (fcons (fvar 0) (fcons (fcallO lenD (fcons (fvar 10) fnil)) fnil)) fnil))) (fcons (fbin (binD2 .Add) (fcon (.int 1)) (fcallO (cl k fe__law_draw [0, 1]) (fapp (fcons (fvar 0) (fcons (fcon (.int 5)) fnil)) fnil))) fnil))) (gtup 2 (gcons (gname 14) (gcons (gname 12) gnil))))
  (fseq (fasg (fbin ixD (fvar 4) (fbin (binD2 .Mod) (fcallO intD (fcons (fbin (binD2 .Add) (fbin (binD2 .Add) (fmeth "list" indexD (fvar 4) (fcons (fvar 14) fnil)) (fcon (.int 1))) (fcallO (cl k fe__law_draw [0, 1]) (fapp (fcons (fvar 0) (fcons (fcallO (min2D true) (fcons (fcon (.int 1)) (fcons (fbin (binD2 .Sub) (fcallO lenD (fcons (fvar 4) fnil)) (fcon (.int 1))) fnil))) fnil)) fnil))) fnil)) (fcallO lenD (fcons (fvar 4) fnil)))) (gname 11))
  (fseq (fasg (fif (fbool (fbin (cmpD .Gt) (fvar 9) (fcon (.int 2)))) (fcallO (min2D false) (fcons (fvar 12) (fcons (fbin ixD (fvar 6) (fvar 14)) fnil))) (fvar 12)) (gname 12))
  (fseq (fifS (fand (fbool (fbin (cmpD .Eq) (fvar 9) (fcon (.int 8)))) (fbool (fbin (cmpD .NotEq) (fvar 8) (flst false fnil))))
   (fseq (fasg (fmeth "list" popAtD (fvar 8) (fcons (fcallO (cl k fe__law_draw [0, 1]) (fapp (fcons (fvar 0) (fcons (fcallO lenD (fcons (fvar 8) fnil)) fnil)) fnil)) fnil)) (gtup 2 (gcons (gname 15) (gcons (gname 12) gnil))))
   (fseq (fdrop (fmeth "list" appendD (fvar 7) (fcons (ftup (fcons (fcon (.str "back")) (fcons (fvar 15) (fcons (fvar 14) fnil)))) fnil)))
   (fseq (fasg (fbin (binD2 .Add) (fbin ixD (fvar 6) (fvar 14)) (fvar 12)) (gsub (fvar 6) (fvar 14)))
   fskip)))
   (fseq (fifS (fand (fbool (fbin (cmpD .In) (fvar 9) (ftup (fcons (fcon (.int 3)) (fcons (fcon (.int 4)) (fcons (fcon (.int 5)) fnil)))))) (fand (fbool (fbin (cmpD .Gt) (fvar 12) (fcon (.int 0)))) (fbool (fbin (cmpD .NotEq) (fvar 11) (fvar 14)))))
    (fseq (fdrop (fmeth "list" appendD (fvar 7) (fcons (ftup (fcons (fcon (.str "move")) (fcons (fvar 14) (fcons (fvar 11) (fcons (fvar 12) fnil))))) fnil)))
    (fseq (fasg (ftup (fcons (fbin (binD2 .Sub) (fbin ixD (fvar 6) (fvar 14)) (fvar 12)) (fcons (fbin (binD2 .Add) (fbin ixD (fvar 6) (fvar 11)) (fvar 12)) fnil))) (gtup 2 (gcons (gsub (fvar 6) (fvar 14)) (gcons (gsub (fvar 6) (fvar 11)) gnil))))
    fskip))
    (fseq (fifS (fand (fbool (fbin (cmpD .In) (fvar 9) (ftup (fcons (fcon (.int 6)) (fcons (fcon (.int 7)) fnil))))) (fbool (fbin (cmpD .Gt) (fvar 12) (fcon (.int 0)))))
     (fseq (fdrop (fmeth "list" appendD (fvar 7) (fcons (ftup (fcons (fif (fand (for_ (fbool (fbin (cmpD .Eq) (fvar 9) (fcon (.int 6)))) (fbool (fbin (cmpD .Lt) (fvar 5) (fcon (.int 4))))) (fbool (fbin (cmpD .Lt) (fcallO lenD (fcons (fvar 8) fnil)) (fcon (.int 6))))) (fcon (.str "sell")) (fcon (.str "waste"))) (fcons (fvar 14) (fcons (fvar 12) fnil)))) fnil)))
     (fseq (fdrop (fmeth "list" extendD (fvar 8) (fcons (fif (fbool (fbin (cmpD .Eq) (fbin ixD (fbin ixD (fvar 7) (fneg (fcon (.int 1)))) (fcon (.int 0))) (fcon (.str "sell")))) (flst false (fcons (ftup (fcons (fvar 5) (fcons (fvar 12) fnil))) fnil)) (flst false fnil)) fnil)))
     (fseq (fasg (fbin (binD2 .Sub) (fbin ixD (fvar 6) (fvar 14)) (fvar 12)) (gsub (fvar 6) (fvar 14)))
     fskip)))
     (fseq (fasg (fcallO (min2D true) (fcons (fcon (.int 1)) (fcons (fvar 12) fnil))) (gname 12))
     (fseq (fdrop (fmeth "list" appendD (fvar 7) (fcons (ftup (fcons (fcon (.str "come")) (fcons (fvar 14) (fcons (fbin ixD (flst false (fcons (fcon (.str "ash")) (fcons (fcon (.str "b")) (fcons (fcon (.str "come")) (fcons (fcon (.str "zz")) fnil))))) (fcallO (cl k fe__law_draw [0, 1]) (fapp (fcons (fvar 0) (fcons (fcon (.int 4)) fnil)) fnil))) (fcons (fvar 12) fnil))))) fnil)))
     (fseq (fasg (fbin (binD2 .Add) (fbin ixD (fvar 6) (fvar 14)) (fvar 12)) (gsub (fvar 6) (fvar 14)))
     fskip))))
    fskip))
   fskip))
  fskip))))))))
 (fseq (fret (ftup (fcons (fvar 3) (fcons (fcallO tupleD (fcons (fvar 7) fnil)) fnil))))
 fskip)))))))
theorem mir__law_book (k : Nat) : exSs (C (k + 1)) ⟨fe__law_book.N, fe__law_book.sc, fun _ => true⟩ 100 fe__law_book.body = m__law_book k := by kernel_rfl
theorem run__law_book (k : Nat) (x0 x1 : D) (st : Store) : run (k + 1) fe__law_book [x0, x1] st = endD (m__law_book k [some x0, some x1, none, none, none, none, none, none, none, none, none, none, none, none, none, none, none] st) := by
  rw [← mir__law_book]
  kernel_rfl
def m__law_notes (k : Nat) : FS := (fseq (fasg (ftup (fcons (flistRg1 true (fcallO lenD (fcons (fbin ixD (fvar 1) (fcon (.int 1))) fnil))) (fcons (flst true fnil) fnil))) (gtup 2 (gcons (gname 3) (gcons (gname 4) gnil))))
 (fseq (ffor (frange1 (fcallO (cl k fe__law_draw [0, 1]) (fapp (fcons (fvar 0) (fcons (fcon (.int 4)) fnil)) fnil))) (gname 2)
  (fseq (fifS (fbool (fbin (cmpD .NotEq) (fvar 3) (flst false fnil)))
   (fseq (fdrop (fmeth "list" appendD (fvar 4) (fcons (ftup (fcons (fbin ixD (flst false (fcons (fcon (.str "bad")) (fcons (fcon (.str "clean")) fnil))) (fcallO (cl k fe__law_draw [0, 1]) (fapp (fcons (fvar 0) (fcons (fcon (.int 2)) fnil)) fnil))) (fcons (fmeth "list" popAtD (fvar 3) (fcons (fcallO (cl k fe__law_draw [0, 1]) (fapp (fcons (fvar 0) (fcons (fcallO lenD (fcons (fvar 3) fnil)) fnil)) fnil)) fnil)) fnil))) fnil)))
   fskip)
   fskip)
  fskip))
 (fseq (fret (fcallO tupleD (fcons (fcallO sortedD (fcons (fvar 4) fnil)) fnil)))
 fskip)))
theorem mir__law_notes (k : Nat) : exSs (C (k + 1)) ⟨fe__law_notes.N, fe__law_notes.sc, fun _ => true⟩ 100 fe__law_notes.body = m__law_notes k := by kernel_rfl
theorem run__law_notes (k : Nat) (x0 x1 : D) (st : Store) : run (k + 1) fe__law_notes [x0, x1] st = endD (m__law_notes k [some x0, some x1, none, none, none] st) := by
  rw [← mir__law_notes]
  kernel_rfl
def m__law_case (k : Nat) : FS := (fseq (fasg (fcallO (cl k fe__law_book [0, 1]) (fapp (fcons (fvar 0) (fcons (fvar 1) fnil)) fnil)) (gname 2))
 (fseq (fasg (fbin ixD (flst false (fcons (ftup fnil) (fcons (ftup (fcons (fcon (.str "ash")) fnil)) (fcons (ftup (fcons (fcon (.str "ash")) (fcons (fcon (.str "b")) fnil))) (fcons (ftup (fcons (fcon (.str "b")) (fcons (fcon (.str "come")) (fcons (fcon (.str "zz")) fnil)))) (fcons (ftup (fcons (fcon (.str "nobody")) fnil)) fnil)))))) (fcallO (cl k fe__law_draw [0, 1]) (fapp (fcons (fvar 0) (fcons (fcon (.int 5)) fnil)) fnil))) (gname 3))
 (fseq (fret (ftup (fcons (fvar 2) (fcons (fcallO (cl k fe__law_notes [0, 1]) (fapp (fcons (fvar 0) (fcons (fvar 2) fnil)) fnil)) (fcons (fvar 3) (fcons (fcallO (cl k fe__law_draw [0, 1]) (fapp (fcons (fvar 0) (fcons (fcon (.int 4)) fnil)) fnil)) fnil))))))
 fskip)))
theorem mir__law_case (k : Nat) : exSs (C (k + 1)) ⟨fe__law_case.N, fe__law_case.sc, fun _ => true⟩ 100 fe__law_case.body = m__law_case k := by kernel_rfl
theorem run__law_case (k : Nat) (x0 x1 : D) (st : Store) : run (k + 1) fe__law_case [x0, x1] st = endD (m__law_case k [some x0, some x1, none, none] st) := by
  rw [← mir__law_case]
  kernel_rfl
def m__law_odd (k : Nat) : FS := (fseq (fasg (flst false (fcons (fcon .non) (fcons (fcon (.bl true)) (fcons (fcon (.bl false)) (fcons (fcon (.int 0)) (fcons (fneg (fcon (.int 1))) (fcons (fcon (.int 1)) (fcons (fcon (.str "")) (fcons (fcon (.str "tank")) (fcons (fcon (.str "ash")) (fcons (fcon (.str "bad")) (fcons (ftup fnil) (fcons (flst false fnil) (fcons (ftup (fcons (fcon (.str "bad")) (fcons (fcon (.int 0)) fnil))) (fcons (ftup (fcons (fcon (.str "sell")) (fcons (fcon (.str "tank")) (fcons (fcon (.int 1)) fnil)))) (fcons (fcon (.int 5)) (fcons (ftup (fcons (fcon (.str "a")) fnil)) fnil))))))))))))))))) (gname 1))
 (fseq (fret (fbin ixD (fvar 1) (fcallO (cl k fe__law_draw [0, 1]) (fapp (fcons (fvar 0) (fcons (fcon (.int 16)) fnil)) fnil))))
 fskip))
theorem mir__law_odd (k : Nat) : exSs (C (k + 1)) ⟨fe__law_odd.N, fe__law_odd.sc, fun _ => true⟩ 100 fe__law_odd.body = m__law_odd k := by kernel_rfl
theorem run__law_odd (k : Nat) (x0 : D) (st : Store) : run (k + 1) fe__law_odd [x0] st = endD (m__law_odd k [some x0, none] st) := by
  rw [← mir__law_odd]
  kernel_rfl
def m__law_bent (k : Nat) : FS := (fseq (fifS (fand (ftru (fcallO isiD (fcons (fvar 1) (fcons (fcon (.ty "tuple")) fnil)))) (fand (fbool (fbin (cmpD .NotEq) (fvar 1) (ftup fnil))) (fbool (fbin (cmpD .Gt) (fcallO (cl k fe__law_draw [0, 1]) (fapp (fcons (fvar 0) (fcons (fcon (.int 6)) fnil)) fnil)) (fcon (.int 0))))))
  (fseq (fasg (fcallO (cl k fe__law_draw [0, 1]) (fapp (fcons (fvar 0) (fcons (fcallO lenD (fcons (fvar 1) fnil)) fnil)) fnil)) (gname 3))
  (fseq (fret (fbin (binD2 .Add) (fbin (binD2 .Add) (fslice false (fvar 1) fpartN (fpart (fvar 3))) (ftup (fcons (fcallO (cl k fe__law_bent [0, 1]) (fapp (fcons (fvar 0) (fcons (fbin ixD (fvar 1) (fvar 3)) fnil)) fnil)) fnil))) (fslice false (fvar 1) (fpart (fbin (binD2 .Add) (fvar 3) (fcon (.int 1)))) fpartN)))
  fskip))
  fskip)
 (fseq (fasg (fcallO (cl k fe__law_draw [0, 1]) (fapp (fcons (fvar 0) (fcons (fcon (.int 9)) fnil)) fnil)) (gname 2))
 (fseq (fifS (fand (ftru (fcallO isiD (fcons (fvar 1) (fcons (fcon (.ty "tuple")) fnil)))) (fbool (fbin (cmpD .Lt) (fvar 2) (fcon (.int 7)))))
  (fseq (fasg (flst false (fcons (fcallO (listD false) (fcons (fvar 1) fnil)) (fcons (fslice false (fvar 1) (fpart (fcon (.int 1))) fpartN) (fcons (fslice false (fvar 1) fpartN (fpart (fneg (fcon (.int 1))))) (fcons (fbin (binD2 .Add) (fvar 1) (fslice false (fvar 1) (fpart (fneg (fcon (.int 1)))) fpartN)) fnil))))) (gname 4))
  (fseq (fret (fbin ixD (fbin (binD2 .Add) (fvar 4) (flst false (fcons (fstep false (fvar 1) fpartN fpartN (fpart (fneg (fcon (.int 1))))) (fcons (ftup (fcons (fvar 1) fnil)) (fcons (fbin (binD2 .Add) (fvar 1) (ftup (fcons (fcon .non) fnil))) fnil))))) (fvar 2)))
  fskip))
  fskip)
 (fseq (fifS (fand (ftru (fcallO isiD (fcons (fvar 1) (fcons (fcon (.ty "str")) fnil)))) (fbool (fbin (cmpD .Lt) (fvar 2) (fcon (.int 6)))))
  (fseq (fret (fbin ixD (flst false (fcons (fbin (binD2 .Add) (fvar 1) (fcon (.str "a"))) (fcons (fslice false (fvar 1) fpartN (fpart (fneg (fcon (.int 1))))) (fcons (fmeth "str" upperD (fvar 1) fnil) (fcons (fbin (binD2 .Add) (fvar 1) (fcon (.str " "))) (fcons (flst false (fcons (fvar 1) fnil)) (fcons (fbin (binD2 .Add) (fvar 1) (fcon (.str "abcdefgh"))) fnil))))))) (fvar 2)))
  fskip)
  fskip)
 (fseq (fifS (fand (ftru (fcallO isiD (fcons (fvar 1) (fcons (fcon (.ty "int")) fnil)))) (fbool (fbin (cmpD .Lt) (fvar 2) (fcon (.int 6)))))
  (fseq (fret (fbin ixD (flst false (fcons (fbin (binD2 .Add) (fvar 1) (fcon (.int 1))) (fcons (fbin (binD2 .Sub) (fvar 1) (fcon (.int 1))) (fcons (fbin (cmpD .Eq) (fvar 1) (fcon (.int 1))) (fcons (fcallO strD2 (fcons (fvar 1) fnil)) (fcons (fbin (binD2 .Sub) (fcon (.int 0)) (fvar 1)) (fcons (flst false (fcons (fvar 1) fnil)) fnil))))))) (fvar 2)))
  fskip)
  fskip)
 (fseq (fret (fcallO (cl k fe__law_odd [0]) (fapp (fcons (fvar 0) fnil) fnil)))
 fskip))))))
theorem mir__law_bent (k : Nat) : exSs (C (k + 1)) ⟨fe__law_bent.N, fe__law_bent.sc, fun _ => true⟩ 100 fe__law_bent.body = m__law_bent k := by kernel_rfl
theorem run__law_bent (k : Nat) (x0 x1 : D) (st : Store) : run (k + 1) fe__law_bent [x0, x1] st = endD (m__law_bent k [some x0, some x1, none, none, none] st) := by
  rw [← mir__law_bent]
  kernel_rfl
def m__law_right (k : Nat) : FS := (fseq (fasg (flst false (fcons (fcallO (cl k fe_is_number [0]) (fapp (fcons (fvar 0) fnil) fnil)) (fcons (fcallO (cl k fe_is_name [0]) (fapp (fcons (fvar 0) fnil) fnil)) (fcons (fcallO (cl k fe_is_place [0]) (fapp (fcons (fvar 0) fnil) fnil)) (fcons (fcallO (cl k fe_is_row [0]) (fapp (fcons (fvar 0) fnil) fnil)) (fcons (fcallO (cl k fe_is_finding [0]) (fapp (fcons (fvar 0) fnil) fnil)) fnil)))))) (gname 1))
 (fseq (fasg (flst false (fcons (fcallO (cl k fe__law_count [0]) (fapp (fcons (fvar 0) fnil) fnil)) (fcons (fcallO (cl k fe__law_named [0]) (fapp (fcons (fvar 0) fnil) fnil)) (fcons (fcallO (cl k fe__law_placed [0]) (fapp (fcons (fvar 0) fnil) fnil)) (fcons (fcallO (cl k fe__law_formed [0]) (fapp (fcons (fvar 0) fnil) fnil)) (fcons (fcallO (cl k fe__law_found [0]) (fapp (fcons (fvar 0) fnil) fnil)) fnil)))))) (gname 2))
 (fseq (fret (fbin (cmpD .Eq) (fcallO reprD (fcons (fvar 1) fnil)) (fcallO reprD (fcons (fvar 2) fnil))))
 fskip)))
theorem mir__law_right (k : Nat) : exSs (C (k + 1)) ⟨fe__law_right.N, fe__law_right.sc, fun _ => true⟩ 100 fe__law_right.body = m__law_right k := by kernel_rfl
theorem run__law_right (k : Nat) (x0 : D) (st : Store) : run (k + 1) fe__law_right [x0] st = endD (m__law_right k [some x0, none, none] st) := by
  rw [← mir__law_right]
  kernel_rfl
def m__law_values (k : Nat) : FS := (fseq (fasg (fbin (binD2 .Pow) (fcon (.int 10)) (fcon (.int 59))) (gname 0))
 (fseq (fasg (flst true (fcons (fcon (.int 0)) (fcons (fcon (.int 1)) (fcons (fneg (fcon (.int 1))) (fcons (fvar 0) (fcons (fneg (fvar 0)) (fcons (fcon (.bl true)) (fcons (fcon (.bl false)) (fcons (fcon .non) (fcons (fcon (.str "")) (fcons (fcon (.str "a")) (fcons (fcon (.str "abcdefgh")) (fcons (fcon (.str "abcdefghi")) (fcons (fcon (.str "A")) (fcons (fcon (.str "a b")) (fcons (fcon (.str "a1")) (fcons (fcon (.str "`")) (fcons (fcon (.str "{")) (fcons (fcon (.str "z")) fnil))))))))))))))))))) (gname 1))
 (fseq (fdrop (fmeth "list" extendD (fvar 1) (fcons (flst false (fcons (ftup fnil) (fcons (flst false fnil) (fcons (ftup (fcons (fcon (.str "a")) fnil)) (fcons (ftup (fcons (fcon (.str "a")) (fcons (fcon (.str "heap")) fnil))) (fcons (ftup (fcons (fcon (.str "a")) (fcons (fcon (.str "pipe")) fnil))) (fcons (ftup (fcons (fcon (.str "a")) (fcons (fcon (.str "Heap")) fnil))) fnil))))))) fnil)))
 (fseq (fdrop (fmeth "list" extendD (fvar 1) (fcons (flst false (fcons (ftup (fcons (fcon (.str "heap")) (fcons (fcon (.str "heap")) fnil))) (fcons (ftup (fcons (fcon (.str "A")) (fcons (fcon (.str "heap")) fnil))) (fcons (flst false (fcons (fcon (.str "a")) (fcons (fcon (.str "heap")) fnil))) fnil)))) fnil)))
 (fseq (fdrop (fmeth "list" extendD (fvar 1) (fcons (flst false (fcons (ftup (fcons (fcon (.str "a")) (fcons (fcon (.str "heap")) (fcons (fcon (.int 0)) fnil)))) (fcons (ftup (fcons (fcon (.str "a")) (fcons (fcon .non) fnil))) (fcons (ftup (fcons (fcon (.str "")) (fcons (fcon (.str "pipe")) fnil))) (fcons (ftup (fcons (fcon (.int 1)) (fcons (fcon (.str "pipe")) fnil))) (fcons (ftup (fcons (fcon (.str "a")) (fcons (flst false (fcons (fcon (.str "pipe")) fnil)) fnil))) fnil)))))) fnil)))
 (fseq (fdrop (fmeth "list" extendD (fvar 1) (fcons (flst false (fcons (ftup (fcons (fcon (.str "heap")) (fcons (fcon (.str "a")) fnil))) (fcons (ftup (fcons (fcon (.str "a")) (fcons (fcon (.bl true)) fnil))) fnil))) fnil)))
 (fseq (fdrop (fmeth "list" extendD (fvar 1) (fcons (flst false (fcons (ftup (fcons (fcon (.str "bad")) (fcons (fcon (.int 0)) fnil))) (fcons (ftup (fcons (fcon (.str "clean")) (fcons (fvar 0) fnil))) (fcons (ftup (fcons (fcon (.str "bad")) (fcons (fneg (fcon (.int 1))) fnil))) (fcons (ftup (fcons (fcon (.str "bad")) (fcons (fcon (.bl true)) fnil))) (fcons (ftup (fcons (fcon (.str "bad")) (fcons (fcon (.str "0")) fnil))) fnil)))))) fnil)))
 (fseq (fdrop (fmeth "list" extendD (fvar 1) (fcons (flst false (fcons (ftup (fcons (fcon (.str "Bad")) (fcons (fcon (.int 0)) fnil))) (fcons (ftup (fcons (fcon (.str "good")) (fcons (fcon (.int 0)) fnil))) (fcons (flst false (fcons (fcon (.str "bad")) (fcons (fcon (.int 0)) fnil))) fnil)))) fnil)))
 (fseq (fdrop (fmeth "list" extendD (fvar 1) (fcons (flst false (fcons (ftup (fcons (fcon (.str "bad")) fnil)) (fcons (ftup (fcons (fcon (.str "bad")) (fcons (fcon (.int 0)) (fcons (fcon (.int 0)) fnil)))) (fcons (ftup (fcons (fcon (.int 0)) (fcons (fcon (.str "bad")) fnil))) (fcons (ftup (fcons (fcon (.str "clean")) (fcons (fcon .non) fnil))) (fcons (ftup (fcons (flst false (fcons (fcon (.str "bad")) fnil)) (fcons (fcon (.int 0)) fnil))) (fcons (ftup (fcons (fcon .non) (fcons (fcon (.int 0)) fnil))) (fcons (ftup (fcons (fcon (.str "bad")) (fcons (ftup (fcons (fcon (.int 0)) fnil)) fnil))) fnil)))))))) fnil)))
 (fseq (fasg (flst false (fcons (ftup (fcons (fcon (.str "come")) (fcons (fcon (.str "a")) (fcons (fcon (.str "b")) (fcons (fcon (.int 1)) fnil))))) (fcons (ftup (fcons (fcon (.str "move")) (fcons (fcon (.str "a")) (fcons (fcon (.str "b")) (fcons (fcon (.int 1)) fnil))))) (fcons (ftup (fcons (fcon (.str "sell")) (fcons (fcon (.str "a")) (fcons (fcon (.int 1)) fnil)))) (fcons (ftup (fcons (fcon (.str "waste")) (fcons (fcon (.str "a")) (fcons (fcon (.int 1)) fnil)))) (fcons (ftup (fcons (fcon (.str "back")) (fcons (fcon (.int 0)) (fcons (fcon (.str "a")) fnil)))) fnil)))))) (gname 2))
 (fseq (ffor (fitems (fvar 2)) (gname 3)
  (fseq (fdrop (fmeth "list" extendD (fvar 1) (fcons (flst false (fcons (fvar 3) (fcons (fcallO (listD false) (fcons (fvar 3) fnil)) (fcons (fslice false (fvar 3) fpartN (fpart (fneg (fcon (.int 1))))) (fcons (fbin (binD2 .Add) (fvar 3) (ftup (fcons (fcon (.int 0)) fnil))) (fcons (fbin (binD2 .Add) (ftup (fcons (fmeth "str" upperD (fbin ixD (fvar 3) (fcon (.int 0))) fnil) fnil)) (fslice false (fvar 3) (fpart (fcon (.int 1))) fpartN)) (fcons (fslice false (fvar 3) (fpart (fcon (.int 1))) fpartN) (fcons (fstep false (fvar 3) fpartN fpartN (fpart (fneg (fcon (.int 1))))) fnil)))))))) fnil)))
  (fseq (ffor (fitems (ftup (fcons (fcon (.int 0)) (fcons (fneg (fcon (.int 1))) (fcons (fcon (.bl true)) (fcons (fcon .non) (fcons (fcon (.str "A")) (fcons (fcon (.str "1")) (fcons (fvar 0) (fcons (ftup (fcons (fcon (.str "a")) fnil)) fnil)))))))))) (gname 4)
   (fseq (fdrop (fmeth "list" extendD (fvar 1) (fcons (flst false (fcons (fbin (binD2 .Add) (fslice false (fvar 3) fpartN (fpart (fneg (fcon (.int 1))))) (ftup (fcons (fvar 4) fnil))) (fcons (fbin (binD2 .Add) (fbin (binD2 .Add) (fslice false (fvar 3) fpartN (fpart (fcon (.int 1)))) (ftup (fcons (fvar 4) fnil))) (fslice false (fvar 3) (fpart (fcon (.int 2))) fpartN)) fnil))) fnil)))
   fskip))
  fskip)))
 (fseq (fdrop (fmeth "list" extendD (fvar 1) (fcons (flst false (fcons (ftup (fcons (fcon (.str "move")) (fcons (fcon (.str "a")) (fcons (fcon (.str "a")) (fcons (fcon (.int 2)) fnil))))) (fcons (ftup (fcons (fcon (.str "sell")) (fcons (fcon (.str "a")) (fcons (fcon (.str "b")) (fcons (fcon (.int 1)) fnil))))) (fcons (ftup (fcons (fcon (.str "come")) (fcons (fcon (.str "a")) (fcons (fcon (.int 1)) fnil)))) fnil)))) fnil)))
 (fseq (fdrop (fmeth "list" extendD (fvar 1) (fcons (flst false (fcons (ftup (fcons (fcon (.str "back")) (fcons (fcon (.str "a")) (fcons (fcon (.int 0)) fnil)))) (fcons (ftup (fcons (fcon (.str "back")) (fcons (fcon (.int 0)) (fcons (fcon (.str "a")) (fcons (fcon (.int 1)) fnil))))) fnil))) fnil)))
 (fseq (fret (fbin (binD2 .Add) (fvar 1) (flst false (fcons (ftup (fcons (fcon (.str "come")) (fcons (fcon (.str "a")) (fcons (fcon (.int 3)) (fcons (fcon (.int 1)) fnil))))) (fcons (ftup (fcons (fcon (.str "move")) (fcons (fcon (.str "a")) (fcons (fcon .non) (fcons (fcon (.int 1)) fnil))))) (fcons (ftup (fcons (flst false (fcons (fcon (.str "sell")) fnil)) (fcons (fcon (.str "a")) (fcons (fcon (.int 1)) fnil)))) (fcons (ftup (fcons (fcon (.str "find")) (fcons (fcon (.str "bad")) (fcons (fcon (.int 1)) fnil)))) (fcons (fbin (binD2 .Mult) (fcon (.str "a")) (fcon (.int 900))) fnil))))))))
 fskip))))))))))))))
theorem mir__law_values (k : Nat) : exSs (C (k + 1)) ⟨fe__law_values.N, fe__law_values.sc, fun _ => true⟩ 100 fe__law_values.body = m__law_values k := by kernel_rfl
theorem run__law_values (k : Nat) (st : Store) : run (k + 1) fe__law_values [] st = endD (m__law_values k [none, none, none, none, none] st) := by
  rw [← mir__law_values]
  kernel_rfl
def m_law (k : Nat) : FS := (fseq (fasg (fcallO (cl k fe__law_feed [0]) (fapp (fcons (fvar 0) fnil) fnil)) (gname 1))
 (fseq (fasg (fstep true (fcallO (cl k fe__law_values []) (fapp fnil fnil)) (fpart (fcallO (cl k fe__law_draw [0, 1]) (fapp (fcons (fvar 1) (fcons (fcon (.int 4)) fnil)) fnil))) fpartN (fpart (fcon (.int 4)))) (gname 2))
 (fseq (fasg (fcallO (cl k fe__law_case [0, 1]) (fapp (fcons (fvar 1) (fcons (fcon (.int 4)) fnil)) fnil)) (gname 3))
 (fseq (ffor (fitems (fbin (binD2 .Add) (fbin (binD2 .Add) (fbin ixD (fbin ixD (fvar 3) (fcon (.int 0))) (fcon (.int 0))) (fbin ixD (fbin ixD (fvar 3) (fcon (.int 0))) (fcon (.int 1)))) (fbin ixD (fvar 3) (fcon (.int 1))))) (gname 4)
  (fseq (fasg (fcallO (cl k fe__law_bent [0, 1]) (fapp (fcons (fvar 1) (fcons (fvar 4) fnil)) fnil)) (gname 7))
  (fseq (fdrop (fmeth "list" extendD (fvar 2) (fcons (flst false (fcons (fvar 4) (fcons (fvar 7) (fcons (fcallO (cl k fe__law_bent [0, 1]) (fapp (fcons (fvar 1) (fcons (fvar 7) fnil)) fnil)) fnil)))) fnil)))
  fskip)))
 (fseq (fasg (fcallO reprD (fcons (fvar 2) fnil)) (gname 5))
 (fseq (fifS (for_ (fbool (fbin (cmpD .NotEq) (flc false (fitems (fvar 2)) (.one 4) (fnot (ftru (fcallO (cl k fe__law_right [0]) (fapp (fcons (fvar 4) fnil) fnil)))) (fvar 4) [4]) (flst false fnil))) (fbool (fbin (cmpD .NotEq) (fcallO reprD (fcons (fvar 2) fnil)) (fvar 5))))
  (fseq (fret (fcon (.bl false)))
  fskip)
  fskip)
 (fseq (fasg (flst false (fcons (fcallO (cl k fe_is_number [0]) (fapp fnil (fcons (fcon (.int 0)) fnil))) (fcons (fcallO (cl k fe_is_name [0]) (fapp fnil (fcons (fcon (.str "a")) fnil))) (fcons (fcallO (cl k fe_is_place [0]) (fapp fnil (fcons (ftup (fcons (fcon (.str "a")) (fcons (fcon (.str "heap")) fnil))) fnil))) (fcons (fcallO (cl k fe_is_row [0]) (fapp fnil (fcons (ftup (fcons (fcon (.str "sell")) (fcons (fcon (.str "a")) (fcons (fcon (.int 1)) fnil)))) fnil))) fnil))))) (gname 6))
 (fseq (fret (fbin (cmpD .Eq) (fcallO reprD (fcons (fbin (binD2 .Add) (fvar 6) (flst false (fcons (fcallO (cl k fe_is_finding [0]) (fapp fnil (fcons (ftup (fcons (fcon (.str "bad")) (fcons (fcon (.int 0)) fnil))) fnil))) fnil))) fnil)) (fcallO reprD (fcons (fbin (binD2 .Mult) (flst false (fcons (fcon (.bl true)) fnil)) (fcon (.int 5))) fnil))))
 fskip))))))))
theorem mir_law (k : Nat) : exSs (C (k + 1)) ⟨fe_law.N, fe_law.sc, fun _ => true⟩ 100 fe_law.body = m_law k := by kernel_rfl
theorem run_law (k : Nat) (x0 : D) (st : Store) : run (k + 1) fe_law [x0] st = endD (m_law k [some x0, none, none, none, none, none, none, none] st) := by
  rw [← mir_law]
  kernel_rfl
end DL.P
end
section
namespace DL.P
open PySem L2
def isNum : D → Bool
  | .int i => decide (0 ≤ i)
  | _ => false
def isAmt : D → Bool
  | .int i => decide (0 < i)
  | _ => false
def low (c : Nat) : Bool := decide (97 ≤ c) && decide (c ≤ 122)
def isNam : D → Bool
  | .str x => decide (1 ≤ x.length) && decide (x.length ≤ 8) && x.cps.toList.all low
  | _ => false
theorem s_is_number (k : Nat) (x : D) (st : Store) (h : good x = true) : run (k + 1) fe_is_number [x] st = some (.bl (isNum x), st) := by
  rw [run_is_number]
  cases x <;> first | rfl | cases h
theorem s_law_count (k : Nat) (x : D) (st : Store) (h : good x = true) : run (k + 1) fe__law_count [x] st = some (.bl (isNum x), st) := by
  rw [run__law_count]
  cases x <;> first | rfl | cases h
theorem s_is_amount (k : Nat) (x : D) (st : Store) (h : good x = true) : run (k + 2) fe_is_amount [x] st = some (.bl (isAmt x), st) := by
  rw [run_is_amount]
  have e : cl (k + 1) fe_is_number [0] [x] st = some (.bl (isNum x), st) := s_is_number k x st h
  simp only [m_is_amount, fseq_, fret_, fandV_, fcallO_, fapp_, fcons_, fnil_, fvar0, bind_ok, List.cons_append, List.nil_append, e, ofO_some]
  cases x with
  | int i =>
    simp only [isNum, isAmt]
    by_cases h0 : 0 ≤ i
    · simp [h0]
    · have : ¬ 0 < i := by omega
      simp [h0, this]
  | _ => first | rfl | cases h
theorem letters (c : Nat) : decide (c ∈ (("abcdefghijklmnopqrstuvwxyz" : String) : Str).cps.toList) = low c := by
  have e : (("abcdefghijklmnopqrstuvwxyz" : String) : Str).cps.toList = [97, 98, 99, 100, 101, 102, 103, 104, 105, 106, 107, 108, 109, 110, 111, 112, 113, 114, 115, 116, 117, 118, 119, 120, 121, 122] := by decide +kernel
  rw [e]
  unfold low
  rw [Bool.eq_iff_iff]
  simp only [List.mem_cons, List.not_mem_nil, or_false, decide_eq_true_eq, Bool.and_eq_true]
  omega
theorem len_str {x : Str} (st : Store) (h : x.length ≤ 16777216) : lenD [.str x] st = some (.int x.length, st) := by
  show (if x.length ≤ 16777216 then some (D.int x.length, st) else none) = _
  rw [if_pos h]
theorem s_is_name (k : Nat) (x : D) (st : Store) (h : good x = true) (hw : wt x ≤ 1000000) : run (k + 1) fe_is_name [x] st = some (.bl (isNam x), st) := by
  rw [run_is_name]
  cases x with
  | str x =>
    simp only [wt] at hw
    simp only [m_is_name, fseq_, fifS_, for__, fnot_, ftru_, fcallO_, fcons_, fnil_, fvar0, fcon_, bind_ok, isi_str_str, ofO_some, truD_bl, toS_ok, Bool.not_true, fbool_, fchain_, len_str st (show x.length ≤ 16777216 by omega), le_int]
    by_cases h1 : 1 ≤ x.length
    · by_cases h2 : x.length ≤ 8
      · have e1 : decide ((1 : Int) ≤ (x.length : Nat)) = true := decide_eq_true (by omega)
        have e2 : decide (((x.length : Nat) : Int) ≤ 8) = true := decide_eq_true (by omega)
        simp only [e1, e2, bind_ok, if_false, Bool.false_eq_true, Bool.not_true, toS_ok, fskip_]
        have hc := lc_str (tt := ftrue) (te := fbin (cmpD .In) (fvar 1) (fcon (.str "abcdefghijklmnopqrstuvwxyz"))) (fe := fvar 0) (env := [some (.str x), none]) (st := st) (x := x) (i := 1) (p := fun _ => true)
          (g := fun d => match d with | .str y => .bl (low (y.cps.toList.headD 0)) | _ => .non) rfl (by omega) (fun c hc env1 he => ⟨rfl, fun _ => by
            subst he
            show inStr false (.str ⟨#[c]⟩) (.str "abcdefghijklmnopqrstuvwxyz") st = _
            unfold inStr
            simp only [Bool.false_eq_true, if_false]
            rw [PySem.StrLaws.found_one, letters]
            rfl⟩)
        simp only [fret_, fcallO_, fcons_, hc, bind_ok, fnil_]
        have e3 : allD false [.lst (((signs x).filter fun _ => true).map fun d => match d with | .str y => D.bl (low (y.cps.toList.headD 0)) | _ => .non)] st = some (.bl (x.cps.toList.all low), st) := by
          have : (((signs x).filter fun _ => true).map fun d => match d with | .str y => D.bl (low (y.cps.toList.headD 0)) | _ => .non) = (x.cps.toList.map low).map D.bl := by
            rw [List.filter_eq_self.mpr fun _ _ => rfl]
            simp [signs, Function.comp_def]
          rw [this]
          unfold allD
          simp only [seqL, Option.bind_some, all_bls, Option.map_some, Bool.false_eq_true, if_false]
          simp
        rw [e3]
        simp [isNam, h1, h2]
      · have e1 : decide ((1 : Int) ≤ (x.length : Nat)) = true := decide_eq_true (by omega)
        have e2 : decide (((x.length : Nat) : Int) ≤ 8) = false := decide_eq_false (by omega)
        simp [e1, e2, isNam, h2]
    · have e1 : decide ((1 : Int) ≤ (x.length : Nat)) = false := decide_eq_false (by omega)
      simp [e1, isNam, h1]
  | _ => first | rfl | cases h
end DL.P
end
section
namespace DL.P
open PySem L2 PyProof.Rows
theorem ord_one (c : Nat) (st : Store) : ordD [.str ⟨#[c]⟩] st = some (.int c, st) := rfl
theorem goods_signs {x : Str} (h : PyData.strOk x = true) (p : D → Bool) : goods ((signs x).filter p) = true ∧ dps ((signs x).filter p) ≤ 0 := by
  unfold PyData.strOk at h
  rw [Array.all_eq_true_iff_forall_mem] at h
  have : ∀ l : List Nat, (∀ c ∈ l, c ∈ x.cps) → goods ((l.map fun c => D.str ⟨#[c]⟩).filter p) = true ∧ dps ((l.map fun c => D.str ⟨#[c]⟩).filter p) ≤ 0 := by
    intro l
    induction l with
    | nil => intro _; exact ⟨rfl, Nat.le_refl _⟩
    | cons c l ih =>
      intro hl
      obtain ⟨h1, h2⟩ := ih fun d hd => hl d (List.mem_cons_of_mem _ hd)
      rw [List.map_cons, List.filter_cons]
      split
      · refine ⟨?_, ?_⟩
        · simp only [goods, h1, Bool.and_true, good, PyData.strOk]
          have := h c (hl c List.mem_cons_self)
          simpa using this
        · simp only [dps, dp]; omega
      · exact ⟨h1, h2⟩
  exact this _ fun c hc => by simpa using hc
theorem s_law_named (k : Nat) (x : D) (st : Store) (h : good x = true) (hw : wt x ≤ 1000000) : run (k + 1) fe__law_named [x] st = some (.bl (isNam x), st) := by
  rw [run__law_named]
  cases x with
  | str x =>
    simp only [wt] at hw
    simp only [m__law_named, fseq_, fifS_, for__, fnot_, ftru_, fcallO_, fcons_, fnil_, fvar0, fcon_, bind_ok, isi_str_str, ofO_some, truD_bl, toS_ok, Bool.not_true, fbool_, fchain_, len_str st (show x.length ≤ 16777216 by omega), lt_int]
    by_cases h1 : 1 ≤ x.length
    · by_cases h2 : x.length ≤ 8
      · have e1 : decide ((0 : Int) < (x.length : Nat)) = true := decide_eq_true (by omega)
        have e2 : decide (((x.length : Nat) : Int) < 9) = true := decide_eq_true (by omega)
        simp only [e1, e2, bind_ok, if_false, Bool.false_eq_true, Bool.not_true, toS_ok, fskip_]
        have hc := lc_str (tt := fnot (fbool (fchain (cmpD .LtE) (cmpD .LtE) (fcon (.int 97)) (fcallO ordD (fcons (fvar 1) fnil)) (fcon (.int 122))))) (te := fvar 1) (fe := fvar 0) (env := [some (.str x), none]) (st := st) (x := x) (i := 1)
          (p := fun d => match d with | .str y => !(low (y.cps.toList.headD 0)) | _ => false)
          (g := id) rfl (by omega) (fun c hc env1 he => by
            subst he
            refine ⟨?_, fun _ => rfl⟩
            simp only [fnot_, fbool_, fchain_, fcon_, bind_ok, fcallO_, fcons_, fnil_, List.set_cons_succ, List.set_cons_zero, fvar1, fvar0, ord_one, ofO_some, le_int]
            unfold low
            simp only [List.headD_cons]
            by_cases q1 : 97 ≤ c
            · have : decide ((97 : Int) ≤ (c : Int)) = true := decide_eq_true (by omega)
              simp only [this, bind_ok]
              by_cases q2 : c ≤ 122
              · have : decide ((c : Int) ≤ 122) = true := decide_eq_true (by omega)
                simp [this, q1, q2]
              · have : decide ((c : Int) ≤ 122) = false := decide_eq_false (by omega)
                simp [this, q1, q2]
            · have : decide ((97 : Int) ≤ (c : Int)) = false := decide_eq_false (by omega)
              simp only [this, bind_ok]
              simp [q1])
        simp only [fret_, fbin_, hc, bind_ok, flst_, fnil_, List.length_nil, Nat.zero_le, if_true, List.map_id, Bool.false_eq_true, if_false]
        simp only [good] at h
        obtain ⟨g1, g2⟩ := goods_signs h fun d => match d with | .str y => !(low (y.cps.toList.headD 0)) | _ => false
        have e4 : cmpD .Eq (.lst ((signs x).filter fun d => match d with | .str y => !(low (y.cps.toList.headD 0)) | _ => false)) (.lst []) st = .ok (.bl (x.cps.toList.all low)) st := by
          refine (eq_nilL false st g1 (by omega)).trans ?_
          simp only [Bool.false_eq_true, if_false]
          congr 2
          rw [Bool.eq_iff_iff, List.isEmpty_iff, List.filter_eq_nil_iff, List.all_eq_true]
          simp [signs]
        rw [e4]
        simp [isNam, h1, h2]
      · have e1 : decide ((0 : Int) < (x.length : Nat)) = true := decide_eq_true (by omega)
        have e2 : decide (((x.length : Nat) : Int) < 9) = false := decide_eq_false (by omega)
        simp only [e1, e2, bind_ok, Bool.not_false, Bool.not_true, toS_ok, if_true]
        simp [isNam, h2]
    · have e1 : decide ((0 : Int) < (x.length : Nat)) = false := decide_eq_false (by omega)
      simp only [e1, bind_ok, Bool.not_false, toS_ok, if_true]
      simp [isNam, h1]
  | _ => first | rfl | cases h
/-! words -/
def isW (ws : List Str) : D → Bool
  | .str x => ws.any fun w => w == x
  | _ => false
theorem flat_strs : ∀ ws : List Str, flatDs (ws.map D.str) = some (ws.map V.str)
  | [] => rfl
  | w :: ws => by simp [flatDs, flatD, flat_strs ws]
theorem in_words (x : Str) (ws : List Str) (st : Store) : inD false (.str x) (.tup (ws.map D.str)) st = .ok (.bl (inV (.str x) (ws.map V.str))) st := by
  unfold inD
  simp only [dctO, flatD, seqA, Option.bind_some, flat_strs]
  unfold inFlat
  simp only [flatD, seqA, Option.bind_some, flat_strs]
  rfl
theorem s_is_word_of (k : Nat) (x : D) (ws : List Str) (st : Store) (h : good x = true) : run (k + 1) fe_is_word_of [x, .tup (ws.map D.str)] st = some (.bl (isW ws x), st) := by
  rw [run_is_word_of]
  cases x with
  | str x =>
    simp only [m_is_word_of, fseq_, fret_, fandV_, fcallO_, fcons_, fnil_, fvar0, fvar1, fcon_, bind_ok, isi_str_str, ofO_some, fbin_]
    have e : cmpD .In (.str x) (.tup (ws.map D.str)) st = .ok (.bl (isW ws (.str x))) st := by
      refine (in_words x ws st).trans ?_
      congr 2
      simp [inV, isW, List.any_map, eqV, Function.comp_def]
    rw [e]
    simp
  | _ => first | rfl | cases h
def isPl : D → Bool
  | .tup [a, b] => isNam a && isW ["heap", "pipe"] b
  | _ => false
theorem good2 {a b : D} (h : good (.tup [a, b]) = true) : good a = true ∧ good b = true := by
  simp only [good, goods, Bool.and_true, Bool.and_eq_true] at h
  exact h
theorem ix0 (a : D) (r : List D) (st : Store) : ixD (.tup (a :: r)) (.int 0) st = .ok a st := by
  show (match atI (a :: r) 0 with | some d => Res.ok d st | none => .stuck) = _
  have : atI (a :: r) 0 = some a := by
    unfold atI ixN
    simp
  rw [this]
theorem ixS (a : D) (r : List D) (n : Nat) (st : Store) (b : D) (h : r[n]? = some b) : ixD (.tup (a :: r)) (.int ((n : Int) + 1)) st = .ok b st := by
  show (match atI (a :: r) ((n : Int) + 1) with | some d => Res.ok d st | none => .stuck) = _
  have hn := (List.getElem?_eq_some_iff.mp h).1
  have : atI (a :: r) ((n : Int) + 1) = some b := by
    unfold atI ixN
    rw [if_pos (by omega), if_pos (by simp; omega)]
    have e : ((n : Int) + 1).toNat = n + 1 := by omega
    simp [e, h]
  rw [this]
theorem s_is_place (k : Nat) (x : D) (st : Store) (h : good x = true) (hw : wt x ≤ 1000000) : run (k + 2) fe_is_place [x] st = some (.bl (isPl x), st) := by
  rw [run_is_place]
  cases x with
  | tup xs =>
    have c1 : ∀ a, good a = true → wt a ≤ 1000000 → cl (k + 1) fe_is_name [0] [a] st = some (.bl (isNam a), st) := fun a g w => s_is_name k a st g w
    have c2 : ∀ a, good a = true → cl (k + 1) fe_is_word_of [0, 1] [a, .tup [.str "heap", .str "pipe"]] st = some (.bl (isW ["heap", "pipe"] a), st) := fun a g => s_is_word_of k a ["heap", "pipe"] st g
    simp only [m_is_place, fseq_, fret_, fandV_, fcallO_, fapp_, fcons_, fnil_, fvar0, fcon_, bind_ok, isi_tup_tuple, ofO_some, fbin_, len_tup, eq_int, List.cons_append, List.nil_append]
    match xs, h, hw with
    | [], h, hw => rfl
    | [a], h, hw => rfl
    | [a, b], h, hw =>
      obtain ⟨g1, g2⟩ := good2 h
      simp only [wt, wts] at hw
      have i1 : ixD (.tup [a, b]) (.int 1) st = .ok b st := ixS a [b] 0 st b rfl
      have q1 := c1 a g1 (by omega)
      have q2 := c2 b g2
      simp only [fseq_, fifS_, fret_, fasg_, fdrop_, fskip_, for__, fand_, fnot_, ftru_, fif_, fbool_, fchain_, fandV_, forV_, fnotV_, fneg_, fcallO_, fapp_, fcons_, fnil_, fcon_, fbin_, ftup_, flst_, fmatch_, fvar0, fvar1, fvar2, fvar3, fvar4, fvar5, fvar6, fvar7, fvar8, fvar9, fvar10, fvar11, fvar12, fvar13, fvar14, bind_ok, bind_stuck, toS_ok, toS_stuck, ofO_some, optS_some, gname_, truD_bl, Bool.not_true, Bool.not_false, Bool.false_eq_true, if_true, if_false, List.cons_append, List.nil_append, List.append_nil, List.set_cons_zero, List.set_cons_succ, endD_rt, endD_nx, ge_int, gt_int, le_int, lt_int, eq_int, add_int, sub_int, int_int, len_tup, isi_non_int, isi_non_bool, isi_non_str, isi_non_tuple, isi_bl_int, isi_bl_bool, isi_bl_str, isi_bl_tuple, isi_int_int, isi_int_bool, isi_int_str, isi_int_tuple, isi_str_int, isi_str_bool, isi_str_str, isi_str_tuple, isi_tup_int, isi_tup_bool, isi_tup_str, isi_tup_tuple, isi_lst_int, isi_lst_bool, isi_lst_str, isi_lst_tuple, List.length_cons, List.length_nil, show ((((0 : Nat) + 1 + 1 : Nat) : Int) == 2) = true from rfl, ix0, q1]
      cases hn : isNam a with
      | true =>
        simp only [fseq_, fifS_, fret_, fasg_, fdrop_, fskip_, for__, fand_, fnot_, ftru_, fif_, fbool_, fchain_, fandV_, forV_, fnotV_, fneg_, fcallO_, fapp_, fcons_, fnil_, fcon_, fbin_, ftup_, flst_, fmatch_, fvar0, fvar1, fvar2, fvar3, fvar4, fvar5, fvar6, fvar7, fvar8, fvar9, fvar10, fvar11, fvar12, fvar13, fvar14, bind_ok, bind_stuck, toS_ok, toS_stuck, ofO_some, optS_some, gname_, truD_bl, Bool.not_true, Bool.not_false, Bool.false_eq_true, if_true, if_false, List.cons_append, List.nil_append, List.append_nil, List.set_cons_zero, List.set_cons_succ, endD_rt, endD_nx, ge_int, gt_int, le_int, lt_int, eq_int, add_int, sub_int, int_int, len_tup, isi_non_int, isi_non_bool, isi_non_str, isi_non_tuple, isi_bl_int, isi_bl_bool, isi_bl_str, isi_bl_tuple, isi_int_int, isi_int_bool, isi_int_str, isi_int_tuple, isi_str_int, isi_str_bool, isi_str_str, isi_str_tuple, isi_tup_int, isi_tup_bool, isi_tup_str, isi_tup_tuple, isi_lst_int, isi_lst_bool, isi_lst_str, isi_lst_tuple, i1, q2]
        simp [isPl, hn]
      | false => simp [isPl, hn]
    | a :: b :: c :: r, h, hw =>
      have e : (((a :: b :: c :: r).length : Int) == 2) = false := by
        rw [beq_eq_false_iff_ne]
        simp only [List.length_cons]
        omega
      simp only [e]
      simp [isPl]
  | _ => first | rfl | cases h
end DL.P
end
section
namespace DL.P
open PySem L2 PyProof.Rows
theorem len2 : ((((0 : Nat) + 1 + 1 : Nat) : Int) == 2) = true := rfl
theorem len3p {r : List D} {a b c : D} : (((a :: b :: c :: r).length : Int) == 2) = false := by
  rw [beq_eq_false_iff_ne]
  simp only [List.length_cons]
  omega
theorem in_repr {b : D} {p : PyData} {w1 w2 y1 y2 : Str} (st : Store) (e : toP b = some p) (h1 : 92 ∉ w1.cps.toList) (h2 : 92 ∉ w2.cps.toList) (e1 : y1.cps.toList = 39 :: (w1.cps.toList ++ [39])) (e2 : y2.cps.toList = 39 :: (w2.cps.toList ++ [39])) (r1 : reprText w1 = y1) (r2 : reprText w2 = y2) :
    cmpD .In (.str p.shown) (.tup [.str y1, .str y2]) st = .ok (.bl (isW [w1, w2] b)) st := by
  refine (in_words p.shown [y1, y2] st).trans ?_
  congr 2
  have a1 := shown_word h1 e e1 r1
  have a2 := shown_word h2 e e2 r2
  simp only [inV, List.map_cons, List.map_nil, List.any_cons, List.any_nil, eqV, Bool.or_false]
  have s1 : (y1 == p.shown) = (p.shown == y1) := by rw [Bool.eq_iff_iff, beq_iff_eq, beq_iff_eq]; exact ⟨Eq.symm, Eq.symm⟩
  have s2 : (y2 == p.shown) = (p.shown == y2) := by rw [Bool.eq_iff_iff, beq_iff_eq, beq_iff_eq]; exact ⟨Eq.symm, Eq.symm⟩
  rw [s1, s2, a1, a2]
  cases b with
  | str x =>
    simp only [isW, List.any_cons, List.any_nil, Bool.or_false]
    congr 1 <;> (rw [Bool.eq_iff_iff, beq_iff_eq, beq_iff_eq]; exact ⟨Eq.symm, Eq.symm⟩)
  | _ => rfl
theorem s_law_placed (k : Nat) (x : D) (st : Store) (h : good x = true) (hw : wt x ≤ 1000000) (hd : dp x ≤ 60) : run (k + 2) fe__law_placed [x] st = some (.bl (isPl x), st) := by
  rw [run__law_placed]
  cases x with
  | tup xs =>
    have c1 : ∀ a, good a = true → wt a ≤ 1000000 → cl (k + 1) fe__law_named [0] [a] st = some (.bl (isNam a), st) := fun a g w => s_law_named k a st g w
    match xs, h, hw, hd with
    | [], h, hw, hd => rfl
    | [a], h, hw, hd => rfl
    | [a, b], h, hw, hd =>
      obtain ⟨g1, g2⟩ := good2 h
      simp only [wt, wts] at hw
      simp only [dp, dps] at hd
      have i1 : ixD (.tup [a, b]) (.int 1) st = .ok b st := ixS a [b] 0 st b rfl
      have q1 := c1 a g1 (by omega)
      obtain ⟨p, e, -⟩ := good_P g2
      have q2 := repr_good st g2 (by omega) (by omega) e
      have q3 := in_repr (w1 := "heap") (w2 := "pipe") (y1 := "'heap'") (y2 := "'pipe'") st e (by decide +kernel) (by decide +kernel) (by decide +kernel) (by decide +kernel) (by decide +kernel) (by decide +kernel)
      simp only [m__law_placed]
      simp only [fseq_, fifS_, fret_, fasg_, fdrop_, fskip_, for__, fand_, fnot_, ftru_, fif_, fbool_, fchain_, fandV_, forV_, fnotV_, fneg_, fcallO_, fapp_, fcons_, fnil_, fcon_, fbin_, ftup_, flst_, fmatch_, fvar0, fvar1, fvar2, fvar3, fvar4, fvar5, fvar6, fvar7, fvar8, fvar9, fvar10, fvar11, fvar12, fvar13, fvar14, bind_ok, bind_stuck, toS_ok, toS_stuck, ofO_some, optS_some, gname_, truD_bl, Bool.not_true, Bool.not_false, Bool.false_eq_true, if_true, if_false, List.cons_append, List.nil_append, List.append_nil, List.set_cons_zero, List.set_cons_succ, endD_rt, endD_nx, ge_int, gt_int, le_int, lt_int, eq_int, add_int, sub_int, int_int, len_tup, isi_non_int, isi_non_bool, isi_non_str, isi_non_tuple, isi_bl_int, isi_bl_bool, isi_bl_str, isi_bl_tuple, isi_int_int, isi_int_bool, isi_int_str, isi_int_tuple, isi_str_int, isi_str_bool, isi_str_str, isi_str_tuple, isi_tup_int, isi_tup_bool, isi_tup_str, isi_tup_tuple, isi_lst_int, isi_lst_bool, isi_lst_str, isi_lst_tuple, List.length_cons, List.length_nil, len2, ix0, q1]
      cases hn : isNam a with
      | true =>
        simp only [fseq_, fifS_, fret_, fasg_, fdrop_, fskip_, for__, fand_, fnot_, ftru_, fif_, fbool_, fchain_, fandV_, forV_, fnotV_, fneg_, fcallO_, fapp_, fcons_, fnil_, fcon_, fbin_, ftup_, flst_, fmatch_, fvar0, fvar1, fvar2, fvar3, fvar4, fvar5, fvar6, fvar7, fvar8, fvar9, fvar10, fvar11, fvar12, fvar13, fvar14, bind_ok, bind_stuck, toS_ok, toS_stuck, ofO_some, optS_some, gname_, truD_bl, Bool.not_true, Bool.not_false, Bool.false_eq_true, if_true, if_false, List.cons_append, List.nil_append, List.append_nil, List.set_cons_zero, List.set_cons_succ, endD_rt, endD_nx, ge_int, gt_int, le_int, lt_int, eq_int, add_int, sub_int, int_int, len_tup, isi_non_int, isi_non_bool, isi_non_str, isi_non_tuple, isi_bl_int, isi_bl_bool, isi_bl_str, isi_bl_tuple, isi_int_int, isi_int_bool, isi_int_str, isi_int_tuple, isi_str_int, isi_str_bool, isi_str_str, isi_str_tuple, isi_tup_int, isi_tup_bool, isi_tup_str, isi_tup_tuple, isi_lst_int, isi_lst_bool, isi_lst_str, isi_lst_tuple, i1, q2, List.length_cons, List.length_nil, show (0 + 1 + 1 : Nat) ≤ 16777216 by decide, q3]
        simp [isPl, hn]
      | false => simp [isPl, hn]
    | a :: b :: c :: r, h, hw, hd =>
      simp only [m__law_placed]
      simp only [fseq_, fifS_, fret_, fasg_, fdrop_, fskip_, for__, fand_, fnot_, ftru_, fif_, fbool_, fchain_, fandV_, forV_, fnotV_, fneg_, fcallO_, fapp_, fcons_, fnil_, fcon_, fbin_, ftup_, flst_, fmatch_, fvar0, fvar1, fvar2, fvar3, fvar4, fvar5, fvar6, fvar7, fvar8, fvar9, fvar10, fvar11, fvar12, fvar13, fvar14, bind_ok, bind_stuck, toS_ok, toS_stuck, ofO_some, optS_some, gname_, truD_bl, Bool.not_true, Bool.not_false, Bool.false_eq_true, if_true, if_false, List.cons_append, List.nil_append, List.append_nil, List.set_cons_zero, List.set_cons_succ, endD_rt, endD_nx, ge_int, gt_int, le_int, lt_int, eq_int, add_int, sub_int, int_int, len_tup, isi_non_int, isi_non_bool, isi_non_str, isi_non_tuple, isi_bl_int, isi_bl_bool, isi_bl_str, isi_bl_tuple, isi_int_int, isi_int_bool, isi_int_str, isi_int_tuple, isi_str_int, isi_str_bool, isi_str_str, isi_str_tuple, isi_tup_int, isi_tup_bool, isi_tup_str, isi_tup_tuple, isi_lst_int, isi_lst_bool, isi_lst_str, isi_lst_tuple, len3p]
      simp [isPl]
  | _ => first | rfl | cases h
def isFd : D → Bool
  | .tup [a, b] => isW ["bad", "clean"] a && isNum b
  | _ => false
theorem s_is_finding (k : Nat) (x : D) (st : Store) (h : good x = true) : run (k + 2) fe_is_finding [x] st = some (.bl (isFd x), st) := by
  rw [run_is_finding]
  cases x with
  | tup xs =>
    have c1 : ∀ a, good a = true → cl (k + 1) fe_is_number [0] [a] st = some (.bl (isNum a), st) := fun a g => s_is_number k a st g
    have c2 : ∀ a, good a = true → cl (k + 1) fe_is_word_of [0, 1] [a, .tup [.str "bad", .str "clean"]] st = some (.bl (isW ["bad", "clean"] a), st) := fun a g => s_is_word_of k a ["bad", "clean"] st g
    match xs, h with
    | [], h => rfl
    | [a], h => rfl
    | [a, b], h =>
      obtain ⟨g1, g2⟩ := good2 h
      have i1 : ixD (.tup [a, b]) (.int 1) st = .ok b st := ixS a [b] 0 st b rfl
      have q1 := c1 b g2
      have q2 := c2 a g1
      simp only [m_is_finding]
      simp only [fseq_, fifS_, fret_, fasg_, fdrop_, fskip_, for__, fand_, fnot_, ftru_, fif_, fbool_, fchain_, fandV_, forV_, fnotV_, fneg_, fcallO_, fapp_, fcons_, fnil_, fcon_, fbin_, ftup_, flst_, fmatch_, fvar0, fvar1, fvar2, fvar3, fvar4, fvar5, fvar6, fvar7, fvar8, fvar9, fvar10, fvar11, fvar12, fvar13, fvar14, bind_ok, bind_stuck, toS_ok, toS_stuck, ofO_some, optS_some, gname_, truD_bl, Bool.not_true, Bool.not_false, Bool.false_eq_true, if_true, if_false, List.cons_append, List.nil_append, List.append_nil, List.set_cons_zero, List.set_cons_succ, endD_rt, endD_nx, ge_int, gt_int, le_int, lt_int, eq_int, add_int, sub_int, int_int, len_tup, isi_non_int, isi_non_bool, isi_non_str, isi_non_tuple, isi_bl_int, isi_bl_bool, isi_bl_str, isi_bl_tuple, isi_int_int, isi_int_bool, isi_int_str, isi_int_tuple, isi_str_int, isi_str_bool, isi_str_str, isi_str_tuple, isi_tup_int, isi_tup_bool, isi_tup_str, isi_tup_tuple, isi_lst_int, isi_lst_bool, isi_lst_str, isi_lst_tuple, List.length_cons, List.length_nil, len2, ix0, q2]
      cases hn : isW ["bad", "clean"] a with
      | true =>
        simp only [fseq_, fifS_, fret_, fasg_, fdrop_, fskip_, for__, fand_, fnot_, ftru_, fif_, fbool_, fchain_, fandV_, forV_, fnotV_, fneg_, fcallO_, fapp_, fcons_, fnil_, fcon_, fbin_, ftup_, flst_, fmatch_, fvar0, fvar1, fvar2, fvar3, fvar4, fvar5, fvar6, fvar7, fvar8, fvar9, fvar10, fvar11, fvar12, fvar13, fvar14, bind_ok, bind_stuck, toS_ok, toS_stuck, ofO_some, optS_some, gname_, truD_bl, Bool.not_true, Bool.not_false, Bool.false_eq_true, if_true, if_false, List.cons_append, List.nil_append, List.append_nil, List.set_cons_zero, List.set_cons_succ, endD_rt, endD_nx, ge_int, gt_int, le_int, lt_int, eq_int, add_int, sub_int, int_int, len_tup, isi_non_int, isi_non_bool, isi_non_str, isi_non_tuple, isi_bl_int, isi_bl_bool, isi_bl_str, isi_bl_tuple, isi_int_int, isi_int_bool, isi_int_str, isi_int_tuple, isi_str_int, isi_str_bool, isi_str_str, isi_str_tuple, isi_tup_int, isi_tup_bool, isi_tup_str, isi_tup_tuple, isi_lst_int, isi_lst_bool, isi_lst_str, isi_lst_tuple, i1, q1]
        simp [isFd, hn]
      | false => simp [isFd, hn]
    | a :: b :: c :: r, h =>
      simp only [m_is_finding]
      simp only [fseq_, fifS_, fret_, fasg_, fdrop_, fskip_, for__, fand_, fnot_, ftru_, fif_, fbool_, fchain_, fandV_, forV_, fnotV_, fneg_, fcallO_, fapp_, fcons_, fnil_, fcon_, fbin_, ftup_, flst_, fmatch_, fvar0, fvar1, fvar2, fvar3, fvar4, fvar5, fvar6, fvar7, fvar8, fvar9, fvar10, fvar11, fvar12, fvar13, fvar14, bind_ok, bind_stuck, toS_ok, toS_stuck, ofO_some, optS_some, gname_, truD_bl, Bool.not_true, Bool.not_false, Bool.false_eq_true, if_true, if_false, List.cons_append, List.nil_append, List.append_nil, List.set_cons_zero, List.set_cons_succ, endD_rt, endD_nx, ge_int, gt_int, le_int, lt_int, eq_int, add_int, sub_int, int_int, len_tup, isi_non_int, isi_non_bool, isi_non_str, isi_non_tuple, isi_bl_int, isi_bl_bool, isi_bl_str, isi_bl_tuple, isi_int_int, isi_int_bool, isi_int_str, isi_int_tuple, isi_str_int, isi_str_bool, isi_str_str, isi_str_tuple, isi_tup_int, isi_tup_bool, isi_tup_str, isi_tup_tuple, isi_lst_int, isi_lst_bool, isi_lst_str, isi_lst_tuple, len3p]
      simp [isFd]
  | _ => first | rfl | cases h
theorem s_law_found (k : Nat) (x : D) (st : Store) (h : good x = true) (hw : wt x ≤ 1000000) (hd : dp x ≤ 60) : run (k + 2) fe__law_found [x] st = some (.bl (isFd x), st) := by
  rw [run__law_found]
  cases x with
  | tup xs =>
    have c1 : ∀ a, good a = true → cl (k + 1) fe__law_count [0] [a] st = some (.bl (isNum a), st) := fun a g => s_law_count k a st g
    match xs, h, hw, hd with
    | [], h, hw, hd => rfl
    | [a], h, hw, hd => rfl
    | [a, b], h, hw, hd =>
      obtain ⟨g1, g2⟩ := good2 h
      simp only [wt, wts] at hw
      simp only [dp, dps] at hd
      have i1 : ixD (.tup [a, b]) (.int 1) st = .ok b st := ixS a [b] 0 st b rfl
      have q1 := c1 b g2
      obtain ⟨p, e, -⟩ := good_P g1
      have q2 := repr_good st g1 (by omega) (by omega) e
      have q3 := in_repr (w1 := "bad") (w2 := "clean") (y1 := "'bad'") (y2 := "'clean'") st e (by decide +kernel) (by decide +kernel) (by decide +kernel) (by decide +kernel) (by decide +kernel) (by decide +kernel)
      simp only [m__law_found]
      simp only [fseq_, fifS_, fret_, fasg_, fdrop_, fskip_, for__, fand_, fnot_, ftru_, fif_, fbool_, fchain_, fandV_, forV_, fnotV_, fneg_, fcallO_, fapp_, fcons_, fnil_, fcon_, fbin_, ftup_, flst_, fmatch_, fvar0, fvar1, fvar2, fvar3, fvar4, fvar5, fvar6, fvar7, fvar8, fvar9, fvar10, fvar11, fvar12, fvar13, fvar14, bind_ok, bind_stuck, toS_ok, toS_stuck, ofO_some, optS_some, gname_, truD_bl, Bool.not_true, Bool.not_false, Bool.false_eq_true, if_true, if_false, List.cons_append, List.nil_append, List.append_nil, List.set_cons_zero, List.set_cons_succ, endD_rt, endD_nx, ge_int, gt_int, le_int, lt_int, eq_int, add_int, sub_int, int_int, len_tup, isi_non_int, isi_non_bool, isi_non_str, isi_non_tuple, isi_bl_int, isi_bl_bool, isi_bl_str, isi_bl_tuple, isi_int_int, isi_int_bool, isi_int_str, isi_int_tuple, isi_str_int, isi_str_bool, isi_str_str, isi_str_tuple, isi_tup_int, isi_tup_bool, isi_tup_str, isi_tup_tuple, isi_lst_int, isi_lst_bool, isi_lst_str, isi_lst_tuple, List.length_cons, List.length_nil, len2, ix0, q2, show (0 + 1 + 1 : Nat) ≤ 16777216 by decide, q3]
      cases hn : isW ["bad", "clean"] a with
      | true =>
        simp only [fseq_, fifS_, fret_, fasg_, fdrop_, fskip_, for__, fand_, fnot_, ftru_, fif_, fbool_, fchain_, fandV_, forV_, fnotV_, fneg_, fcallO_, fapp_, fcons_, fnil_, fcon_, fbin_, ftup_, flst_, fmatch_, fvar0, fvar1, fvar2, fvar3, fvar4, fvar5, fvar6, fvar7, fvar8, fvar9, fvar10, fvar11, fvar12, fvar13, fvar14, bind_ok, bind_stuck, toS_ok, toS_stuck, ofO_some, optS_some, gname_, truD_bl, Bool.not_true, Bool.not_false, Bool.false_eq_true, if_true, if_false, List.cons_append, List.nil_append, List.append_nil, List.set_cons_zero, List.set_cons_succ, endD_rt, endD_nx, ge_int, gt_int, le_int, lt_int, eq_int, add_int, sub_int, int_int, len_tup, isi_non_int, isi_non_bool, isi_non_str, isi_non_tuple, isi_bl_int, isi_bl_bool, isi_bl_str, isi_bl_tuple, isi_int_int, isi_int_bool, isi_int_str, isi_int_tuple, isi_str_int, isi_str_bool, isi_str_str, isi_str_tuple, isi_tup_int, isi_tup_bool, isi_tup_str, isi_tup_tuple, isi_lst_int, isi_lst_bool, isi_lst_str, isi_lst_tuple, i1, q1]
        simp [isFd, hn]
      | false => simp [isFd, hn]
    | a :: b :: c :: r, h, hw, hd =>
      simp only [m__law_found]
      simp only [fseq_, fifS_, fret_, fasg_, fdrop_, fskip_, for__, fand_, fnot_, ftru_, fif_, fbool_, fchain_, fandV_, forV_, fnotV_, fneg_, fcallO_, fapp_, fcons_, fnil_, fcon_, fbin_, ftup_, flst_, fmatch_, fvar0, fvar1, fvar2, fvar3, fvar4, fvar5, fvar6, fvar7, fvar8, fvar9, fvar10, fvar11, fvar12, fvar13, fvar14, bind_ok, bind_stuck, toS_ok, toS_stuck, ofO_some, optS_some, gname_, truD_bl, Bool.not_true, Bool.not_false, Bool.false_eq_true, if_true, if_false, List.cons_append, List.nil_append, List.append_nil, List.set_cons_zero, List.set_cons_succ, endD_rt, endD_nx, ge_int, gt_int, le_int, lt_int, eq_int, add_int, sub_int, int_int, len_tup, isi_non_int, isi_non_bool, isi_non_str, isi_non_tuple, isi_bl_int, isi_bl_bool, isi_bl_str, isi_bl_tuple, isi_int_int, isi_int_bool, isi_int_str, isi_int_tuple, isi_str_int, isi_str_bool, isi_str_str, isi_str_tuple, isi_tup_int, isi_tup_bool, isi_tup_str, isi_tup_tuple, isi_lst_int, isi_lst_bool, isi_lst_str, isi_lst_tuple, len3p]
      simp [isFd]
  | _ => first | rfl | cases h
end DL.P
end
section
namespace DL.P
open PySem L2 PyProof.Rows
/-- a dict of constants -/
theorem fpairs_con : ∀ (l : List (D × D)) (env : Env') (st : Store), fpairs (l.map fun q => (fcon q.1, fcon q.2)) env st = .ok l st
  | [], _, _ => rfl
  | q :: l, env, st => by
    simp only [List.map_cons, fpairs, fcon_, bind_ok, fpairs_con l]
theorem fdict_con (l : List (D × D)) (kvs : List (Key × D)) (env : Env') (st : Store) (h : keysOf l = some kvs) (hl : kvs.length ≤ 15) :
    fdict (l.map fun q => (fcon q.1, fcon q.2)) env st = .ok (.obj st.length) (st ++ [.dk (mergeD [] kvs)]) := by
  unfold fdict
  rw [fpairs_con]
  simp only [bind_ok, h]
  have e : (st ++ [DO.dk []])[st.length]? = some (.dk []) := by simp
  rw [e]
  simp only [if_pos hl]
  congr 1
  simp
theorem dict_last (st : Store) (kvs : List (Key × D)) : dctO (st ++ [.dk kvs]) (.obj st.length) = some kvs := by
  unfold dctO
  simp
def planKV : List (D × D) := [(.str "come", .str "ssn"), (.str "move", .str "ssn"), (.str "sell", .str "sn"), (.str "waste", .str "sn"), (.str "back", .str "cs")]
def planD : List (Key × D) := [(.inr "come", .str "ssn"), (.inr "move", .str "ssn"), (.inr "sell", .str "sn"), (.inr "waste", .str "sn"), (.inr "back", .str "cs")]
def planOf (w : Str) : Option Str := if w = "come" then some ("ssn" : Str) else if w = "move" then some ("ssn" : Str) else if w = "sell" then some ("sn" : Str) else if w = "waste" then some ("sn" : Str) else if w = "back" then some ("cs" : Str) else none
theorem plan_get (w : Str) : (getK planD (.inr w)).getD .non = match planOf w with | some p => .str p | none => .non := by
  unfold getK planD planOf
  simp only [List.find?_cons, List.find?_nil]
  have e : ∀ z : Str, decide ((Sum.inr z : Key) = .inr w) = decide (w = z) := fun z => by
    rw [Bool.eq_iff_iff, decide_eq_true_eq, decide_eq_true_eq]
    exact ⟨fun h => (Sum.inr.inj h).symm, fun h => by rw [h]⟩
  simp only [e]
  by_cases h1 : w = "come"
  · simp [h1]
  · by_cases h2 : w = "move"
    · subst h2; simp [h1]
    · by_cases h3 : w = "sell"
      · subst h3; simp [h1, h2]
      · by_cases h4 : w = "waste"
        · subst h4; simp [h1, h2, h3]
        · by_cases h5 : w = "back"
          · subst h5; simp [h1, h2, h3, h4]
          · simp [h1, h2, h3, h4, h5]
/-- a sign of a plan and a value -/
def okAt (c : Nat) (a : D) : Bool := if c = 115 then isNam a else if c = 110 then isAmt a else isNum a
def isRw : D → Bool
  | .tup (.str w :: r) => match planOf w with
    | some p => decide (r.length = p.length) && (p.cps.toList.zip r).all fun q => okAt q.1 q.2
    | none => false
  | _ => false
theorem eqS (w z : Str) (st : Store) (hw : PyData.strOk w = true) (hz : PyData.strOk z = true) : eqB (.str w) (.str z) st = some (w == z) := by
  unfold eqB
  rw [eq_good false st (x := .str w) (y := .str z) (p := .str w) (q := .str z) (by simpa [good] using hw) (by simpa [good] using hz) (by simp [dp]) (by simp [dp]) rfl rfl]
  simp only [PyData.eqv, Bool.false_eq_true, if_false]
theorem good_cons {a : D} {r : List D} (h : good (.tup (a :: r)) = true) : good a = true ∧ goods r = true := by
  simp only [good, goods, Bool.and_eq_true] at h
  exact h
theorem lens {a : D} {r : List D} (n : Nat) : ((((a :: r).length : Nat) : Int) == ((n + 1 : Nat) : Int)) = decide (r.length = n) := by
  rw [Bool.eq_iff_iff, beq_iff_eq, decide_eq_true_eq]
  simp only [List.length_cons]
  omega
theorem is_row_tail {x : D} {w : Str} {r : List D} (hx : x = .tup (.str w :: r)) : True := trivial
theorem ne_str {x : D} (h : ∀ y, x ≠ .str y) (g : good x = true) (st : Store) : isiD [x, .ty "str"] st = some (.bl false, st) := by
  cases x <;> first | rfl | exact absurd rfl (h _) | cases g
theorem caseOr2 {w z1 z2 : Str} {f : FS} {g : D → FS} {env : Env'} {st : Store} (hw : PyData.strOk w = true) (h1 : PyData.strOk z1 = true) (h2 : PyData.strOk z2 = true) :
    fcaseOr [z1, z2] f g (.str w) env st = if w = z1 ∨ w = z2 then f env st else g (.str w) env st := by
  unfold fcaseOr
  simp only [spats, eqS _ _ _ hw h1, eqS _ _ _ hw h2]
  by_cases e1 : w = z1
  · subst e1; simp
  · have f1 : (w == z1) = false := by rw [beq_eq_false_iff_ne]; exact e1
    by_cases e2 : w = z2
    · subst e2; simp only [f1]; simp
    · have f2 : (w == z2) = false := by rw [beq_eq_false_iff_ne]; exact e2
      simp only [f1, f2]
      simp [e1, e2]
theorem case1S {w z : Str} {f : FS} {g : D → FS} {env : Env'} {st : Store} (hw : PyData.strOk w = true) (h1 : PyData.strOk z = true) :
    fcase1 z f g (.str w) env st = if w = z then f env st else g (.str w) env st := by
  unfold fcase1
  rw [eqS _ _ _ hw h1]
  by_cases e1 : w = z
  · subst e1; simp
  · have f1 : (w == z) = false := by rw [beq_eq_false_iff_ne]; exact e1
    simp only [f1]
    simp [e1]
theorem three {r : List D} (h : r.length = 3) : ∃ a b c, r = [a, b, c] := by
  match r, h with
  | [a, b, c], _ => exact ⟨a, b, c, rfl⟩
theorem two {r : List D} (h : r.length = 2) : ∃ a b, r = [a, b] := by
  match r, h with
  | [a, b], _ => exact ⟨a, b, rfl⟩
theorem isRw3 {w : Str} {r : List D} {p : Str} (hp : planOf w = some p) : isRw (.tup (.str w :: r)) = (decide (r.length = p.length) && (p.cps.toList.zip r).all fun q => okAt q.1 q.2) := by
  unfold isRw
  simp only [hp]
theorem zip_ssn (a b c : D) : ((("ssn" : String) : Str).cps.toList.zip [a, b, c]).all (fun q => okAt q.1 q.2) = (isNam a && (isNam b && isAmt c)) := by
  have e : ((("ssn" : String) : Str)).cps.toList = [115, 115, 110] := by decide +kernel
  rw [e]
  simp [okAt]
theorem zip_sn (a b : D) : ((("sn" : String) : Str).cps.toList.zip [a, b]).all (fun q => okAt q.1 q.2) = (isNam a && isAmt b) := by
  have e : ((("sn" : String) : Str)).cps.toList = [115, 110] := by decide +kernel
  rw [e]
  simp [okAt]
theorem zip_cs (a b : D) : ((("cs" : String) : Str).cps.toList.zip [a, b]).all (fun q => okAt q.1 q.2) = (isNum a && isNam b) := by
  have e : ((("cs" : String) : Str)).cps.toList = [99, 115] := by decide +kernel
  rw [e]
  simp [okAt]
theorem plan_come {w : Str} (h : w = "come" ∨ w = "move") : planOf w = some ("ssn" : Str) := by
  unfold planOf
  rcases h with h | h <;> simp [h]
theorem plan_sell {w : Str} (h : w = "sell" ∨ w = "waste") : planOf w = some ("sn" : Str) := by
  rcases h with h | h <;> subst h <;> decide +kernel
theorem plan_back {w : Str} (h : w = "back") : planOf w = some ("cs" : Str) := by
  subst h; decide +kernel
theorem plan_none {w : Str} (h1 : ¬ (w = "come" ∨ w = "move")) (h2 : ¬ (w = "sell" ∨ w = "waste")) (h3 : ¬ w = "back") : planOf w = none := by
  simp only [not_or] at h1 h2
  unfold planOf
  simp [h1, h2, h3]
theorem s_is_row (k : Nat) (x : D) (st : Store) (h : good x = true) (hw : wt x ≤ 1000000) : run (k + 3) fe_is_row [x] st = some (.bl (isRw x), st) := by
  rw [run_is_row]
  cases x with
  | tup xs =>
    have c1 : ∀ a, good a = true → wt a ≤ 1000000 → cl (k + 2) fe_is_name [0] [a] st = some (.bl (isNam a), st) := fun a g w => s_is_name (k + 1) a st g w
    have c2 : ∀ a, good a = true → cl (k + 2) fe_is_amount [0] [a] st = some (.bl (isAmt a), st) := fun a g => s_is_amount k a st g
    have c3 : ∀ a, good a = true → cl (k + 2) fe_is_number [0] [a] st = some (.bl (isNum a), st) := fun a g => s_is_number (k + 1) a st g
    cases xs with
    | nil => rfl
    | cons a r =>
      obtain ⟨g0, gr⟩ := good_cons h
      simp only [wt, wts] at hw
      have l0 : ((((a :: r).length : Nat) : Int) == 0) = false := by
        rw [beq_eq_false_iff_ne]
        simp only [List.length_cons]
        omega
      by_cases hs : ∃ w, a = .str w
      · obtain ⟨w, rfl⟩ := hs
        have gw : PyData.strOk w = true := by simpa [good] using g0
        have l4 := lens (a := .str w) (r := r) 3
        have l3 := lens (a := .str w) (r := r) 2
        simp only [m_is_row]
        simp only [fseq_, fifS_, fret_, fasg_, fdrop_, fskip_, for__, fand_, fnot_, ftru_, fif_, fbool_, fchain_, fandV_, forV_, fnotV_, fneg_, fcallO_, fapp_, fcons_, fnil_, fcon_, fbin_, ftup_, flst_, fmatch_, fvar0, fvar1, fvar2, fvar3, fvar4, fvar5, fvar6, fvar7, fvar8, fvar9, fvar10, fvar11, fvar12, fvar13, fvar14, bind_ok, bind_stuck, toS_ok, toS_stuck, ofO_some, optS_some, gname_, truD_bl, Bool.not_true, Bool.not_false, Bool.false_eq_true, if_true, if_false, List.cons_append, List.nil_append, List.append_nil, List.set_cons_zero, List.set_cons_succ, endD_rt, endD_nx, ge_int, gt_int, le_int, lt_int, eq_int, add_int, sub_int, int_int, len_tup, isi_non_int, isi_non_bool, isi_non_str, isi_non_tuple, isi_bl_int, isi_bl_bool, isi_bl_str, isi_bl_tuple, isi_int_int, isi_int_bool, isi_int_str, isi_int_tuple, isi_str_int, isi_str_bool, isi_str_str, isi_str_tuple, isi_tup_int, isi_tup_bool, isi_tup_str, isi_tup_tuple, isi_lst_int, isi_lst_bool, isi_lst_str, isi_lst_tuple, l0, ix0]
        rw [caseOr2 gw (by decide +kernel) (by decide +kernel), caseOr2 gw (by decide +kernel) (by decide +kernel), case1S gw (by decide +kernel)]
        by_cases h1 : w = "come" ∨ w = "move"
        · rw [if_pos h1, isRw3 (plan_come h1)]
          by_cases hl : r.length = 3
          · obtain ⟨a, b, c, rfl⟩ := three hl
            simp only [goods, Bool.and_true, Bool.and_eq_true] at gr
            simp only [wts] at hw
            have q1 := c1 a gr.1 (by omega)
            have q2 := c1 b gr.2.1 (by omega)
            have q3 := c2 c gr.2.2
            have i1 : ixD (.tup [.str w, a, b, c]) (.int 1) st = .ok a st := ixS _ _ 0 st a rfl
            have i2 : ixD (.tup [.str w, a, b, c]) (.int 2) st = .ok b st := ixS _ _ 1 st b rfl
            have i3 : ixD (.tup [.str w, a, b, c]) (.int 3) st = .ok c st := ixS _ _ 2 st c rfl
            rw [zip_ssn]
            simp only [fseq_, fifS_, fret_, fasg_, fdrop_, fskip_, for__, fand_, fnot_, ftru_, fif_, fbool_, fchain_, fandV_, forV_, fnotV_, fneg_, fcallO_, fapp_, fcons_, fnil_, fcon_, fbin_, ftup_, flst_, fmatch_, fvar0, fvar1, fvar2, fvar3, fvar4, fvar5, fvar6, fvar7, fvar8, fvar9, fvar10, fvar11, fvar12, fvar13, fvar14, bind_ok, bind_stuck, toS_ok, toS_stuck, ofO_some, optS_some, gname_, truD_bl, Bool.not_true, Bool.not_false, Bool.false_eq_true, if_true, if_false, List.cons_append, List.nil_append, List.append_nil, List.set_cons_zero, List.set_cons_succ, endD_rt, endD_nx, ge_int, gt_int, le_int, lt_int, eq_int, add_int, sub_int, int_int, len_tup, isi_non_int, isi_non_bool, isi_non_str, isi_non_tuple, isi_bl_int, isi_bl_bool, isi_bl_str, isi_bl_tuple, isi_int_int, isi_int_bool, isi_int_str, isi_int_tuple, isi_str_int, isi_str_bool, isi_str_str, isi_str_tuple, isi_tup_int, isi_tup_bool, isi_tup_str, isi_tup_tuple, isi_lst_int, isi_lst_bool, isi_lst_str, isi_lst_tuple, show ((([D.str w, a, b, c].length : Nat) : Int) == 4) = true from rfl, i1, q1]
            cases isNam a with
            | false => rfl
            | true =>
              simp only [fseq_, fifS_, fret_, fasg_, fdrop_, fskip_, for__, fand_, fnot_, ftru_, fif_, fbool_, fchain_, fandV_, forV_, fnotV_, fneg_, fcallO_, fapp_, fcons_, fnil_, fcon_, fbin_, ftup_, flst_, fmatch_, fvar0, fvar1, fvar2, fvar3, fvar4, fvar5, fvar6, fvar7, fvar8, fvar9, fvar10, fvar11, fvar12, fvar13, fvar14, bind_ok, bind_stuck, toS_ok, toS_stuck, ofO_some, optS_some, gname_, truD_bl, Bool.not_true, Bool.not_false, Bool.false_eq_true, if_true, if_false, List.cons_append, List.nil_append, List.append_nil, List.set_cons_zero, List.set_cons_succ, endD_rt, endD_nx, ge_int, gt_int, le_int, lt_int, eq_int, add_int, sub_int, int_int, len_tup, isi_non_int, isi_non_bool, isi_non_str, isi_non_tuple, isi_bl_int, isi_bl_bool, isi_bl_str, isi_bl_tuple, isi_int_int, isi_int_bool, isi_int_str, isi_int_tuple, isi_str_int, isi_str_bool, isi_str_str, isi_str_tuple, isi_tup_int, isi_tup_bool, isi_tup_str, isi_tup_tuple, isi_lst_int, isi_lst_bool, isi_lst_str, isi_lst_tuple, i2, q2]
              cases isNam b with
              | false => rfl
              | true =>
                simp only [fseq_, fifS_, fret_, fasg_, fdrop_, fskip_, for__, fand_, fnot_, ftru_, fif_, fbool_, fchain_, fandV_, forV_, fnotV_, fneg_, fcallO_, fapp_, fcons_, fnil_, fcon_, fbin_, ftup_, flst_, fmatch_, fvar0, fvar1, fvar2, fvar3, fvar4, fvar5, fvar6, fvar7, fvar8, fvar9, fvar10, fvar11, fvar12, fvar13, fvar14, bind_ok, bind_stuck, toS_ok, toS_stuck, ofO_some, optS_some, gname_, truD_bl, Bool.not_true, Bool.not_false, Bool.false_eq_true, if_true, if_false, List.cons_append, List.nil_append, List.append_nil, List.set_cons_zero, List.set_cons_succ, endD_rt, endD_nx, ge_int, gt_int, le_int, lt_int, eq_int, add_int, sub_int, int_int, len_tup, isi_non_int, isi_non_bool, isi_non_str, isi_non_tuple, isi_bl_int, isi_bl_bool, isi_bl_str, isi_bl_tuple, isi_int_int, isi_int_bool, isi_int_str, isi_int_tuple, isi_str_int, isi_str_bool, isi_str_str, isi_str_tuple, isi_tup_int, isi_tup_bool, isi_tup_str, isi_tup_tuple, isi_lst_int, isi_lst_bool, isi_lst_str, isi_lst_tuple, i3, q3]
                rfl
          · have e4 : ((((D.str w :: r).length : Nat) : Int) == 4) = false := l4.trans (decide_eq_false hl)
            simp only [fseq_, fifS_, fret_, fasg_, fdrop_, fskip_, for__, fand_, fnot_, ftru_, fif_, fbool_, fchain_, fandV_, forV_, fnotV_, fneg_, fcallO_, fapp_, fcons_, fnil_, fcon_, fbin_, ftup_, flst_, fmatch_, fvar0, fvar1, fvar2, fvar3, fvar4, fvar5, fvar6, fvar7, fvar8, fvar9, fvar10, fvar11, fvar12, fvar13, fvar14, bind_ok, bind_stuck, toS_ok, toS_stuck, ofO_some, optS_some, gname_, truD_bl, Bool.not_true, Bool.not_false, Bool.false_eq_true, if_true, if_false, List.cons_append, List.nil_append, List.append_nil, List.set_cons_zero, List.set_cons_succ, endD_rt, endD_nx, ge_int, gt_int, le_int, lt_int, eq_int, add_int, sub_int, int_int, len_tup, isi_non_int, isi_non_bool, isi_non_str, isi_non_tuple, isi_bl_int, isi_bl_bool, isi_bl_str, isi_bl_tuple, isi_int_int, isi_int_bool, isi_int_str, isi_int_tuple, isi_str_int, isi_str_bool, isi_str_str, isi_str_tuple, isi_tup_int, isi_tup_bool, isi_tup_str, isi_tup_tuple, isi_lst_int, isi_lst_bool, isi_lst_str, isi_lst_tuple, e4]
            have : decide (r.length = (("ssn" : String) : Str).length) = false := decide_eq_false hl
            rw [this]
            rfl
        · rw [if_neg h1]
          by_cases h2 : w = "sell" ∨ w = "waste"
          · rw [if_pos h2, isRw3 (plan_sell h2)]
            by_cases hl : r.length = 2
            · obtain ⟨a, b, rfl⟩ := two hl
              simp only [goods, Bool.and_true, Bool.and_eq_true] at gr
              simp only [wts] at hw
              have q1 := c1 a gr.1 (by omega)
              have q2 := c2 b gr.2
              have i1 : ixD (.tup [.str w, a, b]) (.int 1) st = .ok a st := ixS _ _ 0 st a rfl
              have i2 : ixD (.tup [.str w, a, b]) (.int 2) st = .ok b st := ixS _ _ 1 st b rfl
              rw [zip_sn]
              simp only [fseq_, fifS_, fret_, fasg_, fdrop_, fskip_, for__, fand_, fnot_, ftru_, fif_, fbool_, fchain_, fandV_, forV_, fnotV_, fneg_, fcallO_, fapp_, fcons_, fnil_, fcon_, fbin_, ftup_, flst_, fmatch_, fvar0, fvar1, fvar2, fvar3, fvar4, fvar5, fvar6, fvar7, fvar8, fvar9, fvar10, fvar11, fvar12, fvar13, fvar14, bind_ok, bind_stuck, toS_ok, toS_stuck, ofO_some, optS_some, gname_, truD_bl, Bool.not_true, Bool.not_false, Bool.false_eq_true, if_true, if_false, List.cons_append, List.nil_append, List.append_nil, List.set_cons_zero, List.set_cons_succ, endD_rt, endD_nx, ge_int, gt_int, le_int, lt_int, eq_int, add_int, sub_int, int_int, len_tup, isi_non_int, isi_non_bool, isi_non_str, isi_non_tuple, isi_bl_int, isi_bl_bool, isi_bl_str, isi_bl_tuple, isi_int_int, isi_int_bool, isi_int_str, isi_int_tuple, isi_str_int, isi_str_bool, isi_str_str, isi_str_tuple, isi_tup_int, isi_tup_bool, isi_tup_str, isi_tup_tuple, isi_lst_int, isi_lst_bool, isi_lst_str, isi_lst_tuple, show ((([D.str w, a, b].length : Nat) : Int) == 3) = true from rfl, i1, q1]
              cases isNam a with
              | false => rfl
              | true =>
                simp only [fseq_, fifS_, fret_, fasg_, fdrop_, fskip_, for__, fand_, fnot_, ftru_, fif_, fbool_, fchain_, fandV_, forV_, fnotV_, fneg_, fcallO_, fapp_, fcons_, fnil_, fcon_, fbin_, ftup_, flst_, fmatch_, fvar0, fvar1, fvar2, fvar3, fvar4, fvar5, fvar6, fvar7, fvar8, fvar9, fvar10, fvar11, fvar12, fvar13, fvar14, bind_ok, bind_stuck, toS_ok, toS_stuck, ofO_some, optS_some, gname_, truD_bl, Bool.not_true, Bool.not_false, Bool.false_eq_true, if_true, if_false, List.cons_append, List.nil_append, List.append_nil, List.set_cons_zero, List.set_cons_succ, endD_rt, endD_nx, ge_int, gt_int, le_int, lt_int, eq_int, add_int, sub_int, int_int, len_tup, isi_non_int, isi_non_bool, isi_non_str, isi_non_tuple, isi_bl_int, isi_bl_bool, isi_bl_str, isi_bl_tuple, isi_int_int, isi_int_bool, isi_int_str, isi_int_tuple, isi_str_int, isi_str_bool, isi_str_str, isi_str_tuple, isi_tup_int, isi_tup_bool, isi_tup_str, isi_tup_tuple, isi_lst_int, isi_lst_bool, isi_lst_str, isi_lst_tuple, i2, q2]
                rfl
            · have e3 : ((((D.str w :: r).length : Nat) : Int) == 3) = false := l3.trans (decide_eq_false hl)
              simp only [fseq_, fifS_, fret_, fasg_, fdrop_, fskip_, for__, fand_, fnot_, ftru_, fif_, fbool_, fchain_, fandV_, forV_, fnotV_, fneg_, fcallO_, fapp_, fcons_, fnil_, fcon_, fbin_, ftup_, flst_, fmatch_, fvar0, fvar1, fvar2, fvar3, fvar4, fvar5, fvar6, fvar7, fvar8, fvar9, fvar10, fvar11, fvar12, fvar13, fvar14, bind_ok, bind_stuck, toS_ok, toS_stuck, ofO_some, optS_some, gname_, truD_bl, Bool.not_true, Bool.not_false, Bool.false_eq_true, if_true, if_false, List.cons_append, List.nil_append, List.append_nil, List.set_cons_zero, List.set_cons_succ, endD_rt, endD_nx, ge_int, gt_int, le_int, lt_int, eq_int, add_int, sub_int, int_int, len_tup, isi_non_int, isi_non_bool, isi_non_str, isi_non_tuple, isi_bl_int, isi_bl_bool, isi_bl_str, isi_bl_tuple, isi_int_int, isi_int_bool, isi_int_str, isi_int_tuple, isi_str_int, isi_str_bool, isi_str_str, isi_str_tuple, isi_tup_int, isi_tup_bool, isi_tup_str, isi_tup_tuple, isi_lst_int, isi_lst_bool, isi_lst_str, isi_lst_tuple, e3]
              have : decide (r.length = (("sn" : String) : Str).length) = false := decide_eq_false hl
              rw [this]
              rfl
          · rw [if_neg h2]
            by_cases h3 : w = "back"
            · rw [if_pos h3, isRw3 (plan_back h3)]
              by_cases hl : r.length = 2
              · obtain ⟨a, b, rfl⟩ := two hl
                simp only [goods, Bool.and_true, Bool.and_eq_true] at gr
                simp only [wts] at hw
                have q1 := c3 a gr.1
                have q2 := c1 b gr.2 (by omega)
                have i1 : ixD (.tup [.str w, a, b]) (.int 1) st = .ok a st := ixS _ _ 0 st a rfl
                have i2 : ixD (.tup [.str w, a, b]) (.int 2) st = .ok b st := ixS _ _ 1 st b rfl
                rw [zip_cs]
                simp only [fseq_, fifS_, fret_, fasg_, fdrop_, fskip_, for__, fand_, fnot_, ftru_, fif_, fbool_, fchain_, fandV_, forV_, fnotV_, fneg_, fcallO_, fapp_, fcons_, fnil_, fcon_, fbin_, ftup_, flst_, fmatch_, fvar0, fvar1, fvar2, fvar3, fvar4, fvar5, fvar6, fvar7, fvar8, fvar9, fvar10, fvar11, fvar12, fvar13, fvar14, bind_ok, bind_stuck, toS_ok, toS_stuck, ofO_some, optS_some, gname_, truD_bl, Bool.not_true, Bool.not_false, Bool.false_eq_true, if_true, if_false, List.cons_append, List.nil_append, List.append_nil, List.set_cons_zero, List.set_cons_succ, endD_rt, endD_nx, ge_int, gt_int, le_int, lt_int, eq_int, add_int, sub_int, int_int, len_tup, isi_non_int, isi_non_bool, isi_non_str, isi_non_tuple, isi_bl_int, isi_bl_bool, isi_bl_str, isi_bl_tuple, isi_int_int, isi_int_bool, isi_int_str, isi_int_tuple, isi_str_int, isi_str_bool, isi_str_str, isi_str_tuple, isi_tup_int, isi_tup_bool, isi_tup_str, isi_tup_tuple, isi_lst_int, isi_lst_bool, isi_lst_str, isi_lst_tuple, show ((([D.str w, a, b].length : Nat) : Int) == 3) = true from rfl, i1, q1]
                cases isNum a with
                | false => rfl
                | true =>
                  simp only [fseq_, fifS_, fret_, fasg_, fdrop_, fskip_, for__, fand_, fnot_, ftru_, fif_, fbool_, fchain_, fandV_, forV_, fnotV_, fneg_, fcallO_, fapp_, fcons_, fnil_, fcon_, fbin_, ftup_, flst_, fmatch_, fvar0, fvar1, fvar2, fvar3, fvar4, fvar5, fvar6, fvar7, fvar8, fvar9, fvar10, fvar11, fvar12, fvar13, fvar14, bind_ok, bind_stuck, toS_ok, toS_stuck, ofO_some, optS_some, gname_, truD_bl, Bool.not_true, Bool.not_false, Bool.false_eq_true, if_true, if_false, List.cons_append, List.nil_append, List.append_nil, List.set_cons_zero, List.set_cons_succ, endD_rt, endD_nx, ge_int, gt_int, le_int, lt_int, eq_int, add_int, sub_int, int_int, len_tup, isi_non_int, isi_non_bool, isi_non_str, isi_non_tuple, isi_bl_int, isi_bl_bool, isi_bl_str, isi_bl_tuple, isi_int_int, isi_int_bool, isi_int_str, isi_int_tuple, isi_str_int, isi_str_bool, isi_str_str, isi_str_tuple, isi_tup_int, isi_tup_bool, isi_tup_str, isi_tup_tuple, isi_lst_int, isi_lst_bool, isi_lst_str, isi_lst_tuple, i2, q2]
                  rfl
              · have e3 : ((((D.str w :: r).length : Nat) : Int) == 3) = false := l3.trans (decide_eq_false hl)
                simp only [fseq_, fifS_, fret_, fasg_, fdrop_, fskip_, for__, fand_, fnot_, ftru_, fif_, fbool_, fchain_, fandV_, forV_, fnotV_, fneg_, fcallO_, fapp_, fcons_, fnil_, fcon_, fbin_, ftup_, flst_, fmatch_, fvar0, fvar1, fvar2, fvar3, fvar4, fvar5, fvar6, fvar7, fvar8, fvar9, fvar10, fvar11, fvar12, fvar13, fvar14, bind_ok, bind_stuck, toS_ok, toS_stuck, ofO_some, optS_some, gname_, truD_bl, Bool.not_true, Bool.not_false, Bool.false_eq_true, if_true, if_false, List.cons_append, List.nil_append, List.append_nil, List.set_cons_zero, List.set_cons_succ, endD_rt, endD_nx, ge_int, gt_int, le_int, lt_int, eq_int, add_int, sub_int, int_int, len_tup, isi_non_int, isi_non_bool, isi_non_str, isi_non_tuple, isi_bl_int, isi_bl_bool, isi_bl_str, isi_bl_tuple, isi_int_int, isi_int_bool, isi_int_str, isi_int_tuple, isi_str_int, isi_str_bool, isi_str_str, isi_str_tuple, isi_tup_int, isi_tup_bool, isi_tup_str, isi_tup_tuple, isi_lst_int, isi_lst_bool, isi_lst_str, isi_lst_tuple, e3]
                have : decide (r.length = (("cs" : String) : Str).length) = false := decide_eq_false hl
                rw [this]
                rfl
            · rw [if_neg h3]
              have : isRw (.tup (.str w :: r)) = false := by
                unfold isRw
                simp only [plan_none h1 h2 h3]
              rw [this]
              rfl
      · simp only [m_is_row]
        have e := ne_str (x := a) (fun y z => hs ⟨y, z⟩) g0 st
        simp only [fseq_, fifS_, fret_, fasg_, fdrop_, fskip_, for__, fand_, fnot_, ftru_, fif_, fbool_, fchain_, fandV_, forV_, fnotV_, fneg_, fcallO_, fapp_, fcons_, fnil_, fcon_, fbin_, ftup_, flst_, fmatch_, fvar0, fvar1, fvar2, fvar3, fvar4, fvar5, fvar6, fvar7, fvar8, fvar9, fvar10, fvar11, fvar12, fvar13, fvar14, bind_ok, bind_stuck, toS_ok, toS_stuck, ofO_some, optS_some, gname_, truD_bl, Bool.not_true, Bool.not_false, Bool.false_eq_true, if_true, if_false, List.cons_append, List.nil_append, List.append_nil, List.set_cons_zero, List.set_cons_succ, endD_rt, endD_nx, ge_int, gt_int, le_int, lt_int, eq_int, add_int, sub_int, int_int, len_tup, isi_non_int, isi_non_bool, isi_non_str, isi_non_tuple, isi_bl_int, isi_bl_bool, isi_bl_str, isi_bl_tuple, isi_int_int, isi_int_bool, isi_int_str, isi_int_tuple, isi_str_int, isi_str_bool, isi_str_str, isi_str_tuple, isi_tup_int, isi_tup_bool, isi_tup_str, isi_tup_tuple, isi_lst_int, isi_lst_bool, isi_lst_str, isi_lst_tuple, l0, ix0, e]
        have : isRw (.tup (a :: r)) = false := by
          cases a <;> first | rfl | exact absurd ⟨_, rfl⟩ hs
        rw [this]
  | _ => first | rfl | cases h
end DL.P
end
section
namespace DL.P
open PySem L2 PyProof.Rows
@[simp] theorem fmeth_ (T : String) (g : D → List D → Store → Option (D × Store)) (fo : FF D) (fs : FF (List D)) (env : Env') (st : Store) :
    fmeth T g fo fs env st = (fo env st).bind fun d st1 => if tyName st1 d = some T then (fs env st1).bind fun ds st2 => ofO (g d ds st2) else .stuck := rfl
@[simp] theorem ffor_ (fi : FF Items) (g : FG) (body : FS) (env : Env') (st : Store) : ffor fi g body env st = (fi env st).toS env fun it st1 => forL it.chk g body it.xs env st1 := rfl
theorem merge_plan : mergeD [] planD = planD := rfl
theorem dict_plan (env : Env') (st : Store) : fdict [((fcon (.str "come")), (fcon (.str "ssn"))), ((fcon (.str "move")), (fcon (.str "ssn"))), ((fcon (.str "sell")), (fcon (.str "sn"))), ((fcon (.str "waste")), (fcon (.str "sn"))), ((fcon (.str "back")), (fcon (.str "cs")))] env st = .ok (.obj st.length) (st ++ [.dk planD]) :=
  fdict_con planKV planD env st rfl (by decide)
theorem ty_last (st : Store) (kvs : List (Key × D)) : tyName (st ++ [.dk kvs]) (.obj st.length) = some "dict" := by
  unfold tyName
  simp
theorem get_plan (w : Str) (st : Store) : getD1 (.obj st.length) [.str w] (st ++ [.dk planD]) = some ((match planOf w with | some p => .str p | none => .non), st ++ [.dk planD]) := by
  unfold getD1
  rw [dict_last]
  simp only [keyD, plan_get]
  first | done | (cases planOf w <;> rfl)
theorem eq_strs (w z : Str) (st : Store) (hw : PyData.strOk w = true) (hz : PyData.strOk z = true) : cmpD .Eq (.str w) (.str z) st = .ok (.bl (w == z)) st := by
  refine (eq_good false st (x := .str w) (y := .str z) (p := .str w) (q := .str z) (by simpa [good] using hw) (by simpa [good] using hz) (by simp [dp]) (by simp [dp]) rfl rfl).trans ?_
  simp only [PyData.eqv, Bool.false_eq_true, if_false]
theorem ne_int (i j : Int) (st : Store) : cmpD .NotEq (.int i) (.int j) st = .ok (.bl (!(i == j))) st := rfl
theorem is_non (st : Store) : cmpD .Is .non .non st = .ok (.bl true) st := rfl
theorem is_str (x : Str) (st : Store) : cmpD .Is (.str x) .non st = .ok (.bl false) st := rfl
theorem rg3 (f : FF D) (env : Env') (st : Store) (h : f env st = .ok (.int 3) st) : frange1 f env st = .ok ⟨[.int 0, .int 1, .int 2], fun _ => true⟩ st := by
  unfold frange1
  rw [h]
  rfl
theorem rg2 (f : FF D) (env : Env') (st : Store) (h : f env st = .ok (.int 2) st) : frange1 f env st = .ok ⟨[.int 0, .int 1], fun _ => true⟩ st := by
  unfold frange1
  rw [h]
  rfl
theorem l_ssn (st : Store) : lenD [.str "ssn"] st = some (.int 3, st) := rfl
theorem l_sn (st : Store) : lenD [.str "sn"] st = some (.int 2, st) := rfl
theorem l_cs (st : Store) : lenD [.str "cs"] st = some (.int 2, st) := rfl
theorem ssn0 (st : Store) : ixD (.str "ssn") (.int 0) st = .ok (.str "s") st := rfl
theorem ssn1 (st : Store) : ixD (.str "ssn") (.int 1) st = .ok (.str "s") st := rfl
theorem ssn2 (st : Store) : ixD (.str "ssn") (.int 2) st = .ok (.str "n") st := rfl
theorem sn0 (st : Store) : ixD (.str "sn") (.int 0) st = .ok (.str "s") st := rfl
theorem sn1 (st : Store) : ixD (.str "sn") (.int 1) st = .ok (.str "n") st := rfl
theorem cs0 (st : Store) : ixD (.str "cs") (.int 0) st = .ok (.str "c") st := rfl
theorem cs1 (st : Store) : ixD (.str "cs") (.int 1) st = .ok (.str "s") st := rfl
theorem eq_ss (st : Store) : cmpD .Eq (.str "s") (.str "s") st = .ok (.bl true) st := (eq_strs "s" "s" st (by decide +kernel) (by decide +kernel)).trans rfl
theorem eq_ns (st : Store) : cmpD .Eq (.str "n") (.str "s") st = .ok (.bl false) st := (eq_strs "n" "s" st (by decide +kernel) (by decide +kernel)).trans rfl
theorem eq_cs (st : Store) : cmpD .Eq (.str "c") (.str "s") st = .ok (.bl false) st := (eq_strs "c" "s" st (by decide +kernel) (by decide +kernel)).trans rfl
theorem eq_sn (st : Store) : cmpD .Eq (.str "s") (.str "n") st = .ok (.bl false) st := (eq_strs "s" "n" st (by decide +kernel) (by decide +kernel)).trans rfl
theorem eq_nn (st : Store) : cmpD .Eq (.str "n") (.str "n") st = .ok (.bl true) st := (eq_strs "n" "n" st (by decide +kernel) (by decide +kernel)).trans rfl
theorem eq_cn (st : Store) : cmpD .Eq (.str "c") (.str "n") st = .ok (.bl false) st := (eq_strs "c" "n" st (by decide +kernel) (by decide +kernel)).trans rfl
theorem amt_num {c : D} (h : isNum c = true) : ∃ i, c = .int i := by
  cases c <;> first | exact ⟨_, rfl⟩ | cases h
theorem num_no {c : D} (h : isNum c = false) : isAmt c = false := by
  cases c with
  | int i =>
    simp only [isNum, decide_eq_false_iff_not] at h
    simp only [isAmt, decide_eq_false_iff_not]
    omega
  | _ => rfl
theorem fin_amt {r : RS} (i : Int) (st : Store) (h : r = if decide (i < 1) = true then .rt (.bl false) st else .rt (.bl true) st) : endD r = some (.bl (isAmt (.int i)), st) := by
  rw [h]
  by_cases hi : i < 1
  · have : isAmt (.int i) = false := decide_eq_false (by omega)
    simp [hi, this]
  · have : isAmt (.int i) = true := decide_eq_true (by omega)
    simp [hi, this]
theorem fin_amt2 {r : RS} (i : Int) (st : Store) (h : r = if decide (i < 1) = true then .rt (.bl false) st else .rt (.bl true) st) : endD r = some (.bl (isAmt (.int i)), st) := fin_amt i st h
theorem s_law_formed (k : Nat) (x : D) (st : Store) (h : good x = true) (hw : wt x ≤ 1000000) (hd : dp x ≤ 60) : ∃ more, run (k + 2) fe__law_formed [x] st = some (.bl (isRw x), st ++ more) := by
  rw [run__law_formed]
  cases x with
  | tup xs =>
    cases xs with
    | nil => exact ⟨[], by rw [List.append_nil]; rfl⟩
    | cons a r =>
      obtain ⟨g0, gr⟩ := good_cons h
      have en := eq_nilT false st h (by omega)
      simp only [wt, wts] at hw
      have en' : cmpD .Eq (.tup (a :: r)) (.tup []) st = .ok (.bl false) st := en
      by_cases hs : ∃ w, a = .str w
      · obtain ⟨w, rfl⟩ := hs
        simp only [m__law_formed]
        simp only [fseq_, fifS_, fret_, fasg_, fdrop_, fskip_, for__, fand_, fnot_, ftru_, fif_, fbool_, fchain_, fandV_, forV_, fnotV_, fneg_, fcallO_, fapp_, fcons_, fnil_, fcon_, fbin_, ftup_, flst_, fmatch_, fvar0, fvar1, fvar2, fvar3, fvar4, fvar5, fvar6, fvar7, fvar8, fvar9, fvar10, fvar11, fvar12, fvar13, fvar14, bind_ok, bind_stuck, toS_ok, toS_stuck, ofO_some, optS_some, gname_, truD_bl, Bool.not_true, Bool.not_false, Bool.false_eq_true, if_true, if_false, List.cons_append, List.nil_append, List.append_nil, List.set_cons_zero, List.set_cons_succ, endD_rt, endD_nx, ge_int, gt_int, le_int, lt_int, eq_int, add_int, sub_int, int_int, len_tup, isi_non_int, isi_non_bool, isi_non_str, isi_non_tuple, isi_bl_int, isi_bl_bool, isi_bl_str, isi_bl_tuple, isi_int_int, isi_int_bool, isi_int_str, isi_int_tuple, isi_str_int, isi_str_bool, isi_str_str, isi_str_tuple, isi_tup_int, isi_tup_bool, isi_tup_str, isi_tup_tuple, isi_lst_int, isi_lst_bool, isi_lst_str, isi_lst_tuple, List.length_nil, Nat.zero_le, en', ix0, fmeth_, dict_plan, ty_last, get_plan]
        have c1 : ∀ a st, good a = true → wt a ≤ 1000000 → cl (k + 1) fe__law_named [0] [a] st = some (.bl (isNam a), st) := fun a st g w => s_law_named k a st g w
        have c2 : ∀ a st, good a = true → cl (k + 1) fe__law_count [0] [a] st = some (.bl (isNum a), st) := fun a st g => s_law_count k a st g
        generalize hst : st ++ [DO.dk planD] = st1
        have fin : ∀ {b : Bool} {s : Option (D × Store)}, s = some (.bl b, st1) → ∃ more, s = some (D.bl b, st ++ more) := fun {b s} e => ⟨[.dk planD], by rw [e, hst]⟩
        by_cases h1 : w = "come" ∨ w = "move"
        · rw [plan_come h1, isRw3 (plan_come h1)]
          refine fin ?_
          simp only [fseq_, fifS_, fret_, fasg_, fdrop_, fskip_, for__, fand_, fnot_, ftru_, fif_, fbool_, fchain_, fandV_, forV_, fnotV_, fneg_, fcallO_, fapp_, fcons_, fnil_, fcon_, fbin_, ftup_, flst_, fmatch_, fvar0, fvar1, fvar2, fvar3, fvar4, fvar5, fvar6, fvar7, fvar8, fvar9, fvar10, fvar11, fvar12, fvar13, fvar14, bind_ok, bind_stuck, toS_ok, toS_stuck, ofO_some, optS_some, gname_, truD_bl, Bool.not_true, Bool.not_false, Bool.false_eq_true, if_true, if_false, List.cons_append, List.nil_append, List.append_nil, List.set_cons_zero, List.set_cons_succ, endD_rt, endD_nx, ge_int, gt_int, le_int, lt_int, eq_int, add_int, sub_int, int_int, len_tup, isi_non_int, isi_non_bool, isi_non_str, isi_non_tuple, isi_bl_int, isi_bl_bool, isi_bl_str, isi_bl_tuple, isi_int_int, isi_int_bool, isi_int_str, isi_int_tuple, isi_str_int, isi_str_bool, isi_str_str, isi_str_tuple, isi_tup_int, isi_tup_bool, isi_tup_str, isi_tup_tuple, isi_lst_int, isi_lst_bool, isi_lst_str, isi_lst_tuple, is_str, l_ssn, ne_int, ffor_]
          by_cases hl : r.length = 3
          · obtain ⟨a, b, c, rfl⟩ := three hl
            simp only [goods, Bool.and_true, Bool.and_eq_true] at gr
            simp only [wts] at hw
            have q1 := c1 a st1 gr.1 (by omega)
            have q2 := c1 b st1 gr.2.1 (by omega)
            have q3 := c2 c st1 gr.2.2
            have i1 : ixD (.tup [.str w, a, b, c]) (.int (0 + 1)) st1 = .ok a st1 := ixS _ _ 0 st1 a rfl
            have i2 : ixD (.tup [.str w, a, b, c]) (.int (1 + 1)) st1 = .ok b st1 := ixS _ _ 1 st1 b rfl
            have i3 : ixD (.tup [.str w, a, b, c]) (.int (2 + 1)) st1 = .ok c st1 := ixS _ _ 2 st1 c rfl
            have rg := rg3 (fcallO lenD (fcons (fvar 1) fnil)) [some (D.tup [.str w, a, b, c]), some (.str "ssn"), none, none] st1 rfl
            rw [zip_ssn]
            simp only [fseq_, fifS_, fret_, fasg_, fdrop_, fskip_, for__, fand_, fnot_, ftru_, fif_, fbool_, fchain_, fandV_, forV_, fnotV_, fneg_, fcallO_, fapp_, fcons_, fnil_, fcon_, fbin_, ftup_, flst_, fmatch_, fvar0, fvar1, fvar2, fvar3, fvar4, fvar5, fvar6, fvar7, fvar8, fvar9, fvar10, fvar11, fvar12, fvar13, fvar14, bind_ok, bind_stuck, toS_ok, toS_stuck, ofO_some, optS_some, gname_, truD_bl, Bool.not_true, Bool.not_false, Bool.false_eq_true, if_true, if_false, List.cons_append, List.nil_append, List.append_nil, List.set_cons_zero, List.set_cons_succ, endD_rt, endD_nx, ge_int, gt_int, le_int, lt_int, eq_int, add_int, sub_int, int_int, len_tup, isi_non_int, isi_non_bool, isi_non_str, isi_non_tuple, isi_bl_int, isi_bl_bool, isi_bl_str, isi_bl_tuple, isi_int_int, isi_int_bool, isi_int_str, isi_int_tuple, isi_str_int, isi_str_bool, isi_str_str, isi_str_tuple, isi_tup_int, isi_tup_bool, isi_tup_str, isi_tup_tuple, isi_lst_int, isi_lst_bool, isi_lst_str, isi_lst_tuple, show (((([D.str w, a, b, c].length : Nat) : Int) == 3 + 1)) = true from rfl, rg, forL, ssn0, ssn1, ssn2, sn0, sn1, cs0, cs1, eq_ss, eq_ns, eq_cs, eq_sn, eq_nn, eq_cn, i1, q1]
            cases isNam a with
            | false => simp only [fseq_, fifS_, fret_, fasg_, fdrop_, fskip_, for__, fand_, fnot_, ftru_, fif_, fbool_, fchain_, fandV_, forV_, fnotV_, fneg_, fcallO_, fapp_, fcons_, fnil_, fcon_, fbin_, ftup_, flst_, fmatch_, fvar0, fvar1, fvar2, fvar3, fvar4, fvar5, fvar6, fvar7, fvar8, fvar9, fvar10, fvar11, fvar12, fvar13, fvar14, bind_ok, bind_stuck, toS_ok, toS_stuck, ofO_some, optS_some, gname_, truD_bl, Bool.not_true, Bool.not_false, Bool.false_eq_true, if_true, if_false, List.cons_append, List.nil_append, List.append_nil, List.set_cons_zero, List.set_cons_succ, endD_rt, endD_nx, ge_int, gt_int, le_int, lt_int, eq_int, add_int, sub_int, int_int, len_tup, isi_non_int, isi_non_bool, isi_non_str, isi_non_tuple, isi_bl_int, isi_bl_bool, isi_bl_str, isi_bl_tuple, isi_int_int, isi_int_bool, isi_int_str, isi_int_tuple, isi_str_int, isi_str_bool, isi_str_str, isi_str_tuple, isi_tup_int, isi_tup_bool, isi_tup_str, isi_tup_tuple, isi_lst_int, isi_lst_bool, isi_lst_str, isi_lst_tuple, Bool.false_and, Bool.and_false]
            | true =>
              simp only [fseq_, fifS_, fret_, fasg_, fdrop_, fskip_, for__, fand_, fnot_, ftru_, fif_, fbool_, fchain_, fandV_, forV_, fnotV_, fneg_, fcallO_, fapp_, fcons_, fnil_, fcon_, fbin_, ftup_, flst_, fmatch_, fvar0, fvar1, fvar2, fvar3, fvar4, fvar5, fvar6, fvar7, fvar8, fvar9, fvar10, fvar11, fvar12, fvar13, fvar14, bind_ok, bind_stuck, toS_ok, toS_stuck, ofO_some, optS_some, gname_, truD_bl, Bool.not_true, Bool.not_false, Bool.false_eq_true, if_true, if_false, List.cons_append, List.nil_append, List.append_nil, List.set_cons_zero, List.set_cons_succ, endD_rt, endD_nx, ge_int, gt_int, le_int, lt_int, eq_int, add_int, sub_int, int_int, len_tup, isi_non_int, isi_non_bool, isi_non_str, isi_non_tuple, isi_bl_int, isi_bl_bool, isi_bl_str, isi_bl_tuple, isi_int_int, isi_int_bool, isi_int_str, isi_int_tuple, isi_str_int, isi_str_bool, isi_str_str, isi_str_tuple, isi_tup_int, isi_tup_bool, isi_tup_str, isi_tup_tuple, isi_lst_int, isi_lst_bool, isi_lst_str, isi_lst_tuple, forL, ssn0, ssn1, ssn2, sn0, sn1, cs0, cs1, eq_ss, eq_ns, eq_cs, eq_sn, eq_nn, eq_cn, i2, q2]
              cases isNam b with
              | false => simp only [fseq_, fifS_, fret_, fasg_, fdrop_, fskip_, for__, fand_, fnot_, ftru_, fif_, fbool_, fchain_, fandV_, forV_, fnotV_, fneg_, fcallO_, fapp_, fcons_, fnil_, fcon_, fbin_, ftup_, flst_, fmatch_, fvar0, fvar1, fvar2, fvar3, fvar4, fvar5, fvar6, fvar7, fvar8, fvar9, fvar10, fvar11, fvar12, fvar13, fvar14, bind_ok, bind_stuck, toS_ok, toS_stuck, ofO_some, optS_some, gname_, truD_bl, Bool.not_true, Bool.not_false, Bool.false_eq_true, if_true, if_false, List.cons_append, List.nil_append, List.append_nil, List.set_cons_zero, List.set_cons_succ, endD_rt, endD_nx, ge_int, gt_int, le_int, lt_int, eq_int, add_int, sub_int, int_int, len_tup, isi_non_int, isi_non_bool, isi_non_str, isi_non_tuple, isi_bl_int, isi_bl_bool, isi_bl_str, isi_bl_tuple, isi_int_int, isi_int_bool, isi_int_str, isi_int_tuple, isi_str_int, isi_str_bool, isi_str_str, isi_str_tuple, isi_tup_int, isi_tup_bool, isi_tup_str, isi_tup_tuple, isi_lst_int, isi_lst_bool, isi_lst_str, isi_lst_tuple, Bool.false_and, Bool.and_false]
              | true =>
                simp only [fseq_, fifS_, fret_, fasg_, fdrop_, fskip_, for__, fand_, fnot_, ftru_, fif_, fbool_, fchain_, fandV_, forV_, fnotV_, fneg_, fcallO_, fapp_, fcons_, fnil_, fcon_, fbin_, ftup_, flst_, fmatch_, fvar0, fvar1, fvar2, fvar3, fvar4, fvar5, fvar6, fvar7, fvar8, fvar9, fvar10, fvar11, fvar12, fvar13, fvar14, bind_ok, bind_stuck, toS_ok, toS_stuck, ofO_some, optS_some, gname_, truD_bl, Bool.not_true, Bool.not_false, Bool.false_eq_true, if_true, if_false, List.cons_append, List.nil_append, List.append_nil, List.set_cons_zero, List.set_cons_succ, endD_rt, endD_nx, ge_int, gt_int, le_int, lt_int, eq_int, add_int, sub_int, int_int, len_tup, isi_non_int, isi_non_bool, isi_non_str, isi_non_tuple, isi_bl_int, isi_bl_bool, isi_bl_str, isi_bl_tuple, isi_int_int, isi_int_bool, isi_int_str, isi_int_tuple, isi_str_int, isi_str_bool, isi_str_str, isi_str_tuple, isi_tup_int, isi_tup_bool, isi_tup_str, isi_tup_tuple, isi_lst_int, isi_lst_bool, isi_lst_str, isi_lst_tuple, forL, ssn0, ssn1, ssn2, sn0, sn1, cs0, cs1, eq_ss, eq_ns, eq_cs, eq_sn, eq_nn, eq_cn, i3, q3]
                cases hq : isNum c with
                | false =>
                  simp only [fseq_, fifS_, fret_, fasg_, fdrop_, fskip_, for__, fand_, fnot_, ftru_, fif_, fbool_, fchain_, fandV_, forV_, fnotV_, fneg_, fcallO_, fapp_, fcons_, fnil_, fcon_, fbin_, ftup_, flst_, fmatch_, fvar0, fvar1, fvar2, fvar3, fvar4, fvar5, fvar6, fvar7, fvar8, fvar9, fvar10, fvar11, fvar12, fvar13, fvar14, bind_ok, bind_stuck, toS_ok, toS_stuck, ofO_some, optS_some, gname_, truD_bl, Bool.not_true, Bool.not_false, Bool.false_eq_true, if_true, if_false, List.cons_append, List.nil_append, List.append_nil, List.set_cons_zero, List.set_cons_succ, endD_rt, endD_nx, ge_int, gt_int, le_int, lt_int, eq_int, add_int, sub_int, int_int, len_tup, isi_non_int, isi_non_bool, isi_non_str, isi_non_tuple, isi_bl_int, isi_bl_bool, isi_bl_str, isi_bl_tuple, isi_int_int, isi_int_bool, isi_int_str, isi_int_tuple, isi_str_int, isi_str_bool, isi_str_str, isi_str_tuple, isi_tup_int, isi_tup_bool, isi_tup_str, isi_tup_tuple, isi_lst_int, isi_lst_bool, isi_lst_str, isi_lst_tuple, num_no hq, Bool.and_false]
                | true =>
                  obtain ⟨i, rfl⟩ := amt_num hq
                  simp only [fseq_, fifS_, fret_, fasg_, fdrop_, fskip_, for__, fand_, fnot_, ftru_, fif_, fbool_, fchain_, fandV_, forV_, fnotV_, fneg_, fcallO_, fapp_, fcons_, fnil_, fcon_, fbin_, ftup_, flst_, fmatch_, fvar0, fvar1, fvar2, fvar3, fvar4, fvar5, fvar6, fvar7, fvar8, fvar9, fvar10, fvar11, fvar12, fvar13, fvar14, bind_ok, bind_stuck, toS_ok, toS_stuck, ofO_some, optS_some, gname_, truD_bl, Bool.not_true, Bool.not_false, Bool.false_eq_true, if_true, if_false, List.cons_append, List.nil_append, List.append_nil, List.set_cons_zero, List.set_cons_succ, endD_rt, endD_nx, ge_int, gt_int, le_int, lt_int, eq_int, add_int, sub_int, int_int, len_tup, isi_non_int, isi_non_bool, isi_non_str, isi_non_tuple, isi_bl_int, isi_bl_bool, isi_bl_str, isi_bl_tuple, isi_int_int, isi_int_bool, isi_int_str, isi_int_tuple, isi_str_int, isi_str_bool, isi_str_str, isi_str_tuple, isi_tup_int, isi_tup_bool, isi_tup_str, isi_tup_tuple, isi_lst_int, isi_lst_bool, isi_lst_str, isi_lst_tuple, forL, ssn0, ssn1, ssn2, sn0, sn1, cs0, cs1, eq_ss, eq_ns, eq_cs, eq_sn, eq_nn, eq_cn, i3]
                  exact fin_amt i st1 (by cases decide (i < 1) <;> rfl)
          · have e4 : ((((D.str w :: r).length : Nat) : Int) == 3 + 1) = false := (lens (a := .str w) (r := r) 3).trans (decide_eq_false hl)
            simp only [fseq_, fifS_, fret_, fasg_, fdrop_, fskip_, for__, fand_, fnot_, ftru_, fif_, fbool_, fchain_, fandV_, forV_, fnotV_, fneg_, fcallO_, fapp_, fcons_, fnil_, fcon_, fbin_, ftup_, flst_, fmatch_, fvar0, fvar1, fvar2, fvar3, fvar4, fvar5, fvar6, fvar7, fvar8, fvar9, fvar10, fvar11, fvar12, fvar13, fvar14, bind_ok, bind_stuck, toS_ok, toS_stuck, ofO_some, optS_some, gname_, truD_bl, Bool.not_true, Bool.not_false, Bool.false_eq_true, if_true, if_false, List.cons_append, List.nil_append, List.append_nil, List.set_cons_zero, List.set_cons_succ, endD_rt, endD_nx, ge_int, gt_int, le_int, lt_int, eq_int, add_int, sub_int, int_int, len_tup, isi_non_int, isi_non_bool, isi_non_str, isi_non_tuple, isi_bl_int, isi_bl_bool, isi_bl_str, isi_bl_tuple, isi_int_int, isi_int_bool, isi_int_str, isi_int_tuple, isi_str_int, isi_str_bool, isi_str_str, isi_str_tuple, isi_tup_int, isi_tup_bool, isi_tup_str, isi_tup_tuple, isi_lst_int, isi_lst_bool, isi_lst_str, isi_lst_tuple, e4]
            have : decide (r.length = (("ssn" : String) : Str).length) = false := decide_eq_false hl
            rw [this]
            rfl
        · by_cases h2 : w = "sell" ∨ w = "waste"
          · rw [plan_sell h2, isRw3 (plan_sell h2)]
            refine fin ?_
            simp only [fseq_, fifS_, fret_, fasg_, fdrop_, fskip_, for__, fand_, fnot_, ftru_, fif_, fbool_, fchain_, fandV_, forV_, fnotV_, fneg_, fcallO_, fapp_, fcons_, fnil_, fcon_, fbin_, ftup_, flst_, fmatch_, fvar0, fvar1, fvar2, fvar3, fvar4, fvar5, fvar6, fvar7, fvar8, fvar9, fvar10, fvar11, fvar12, fvar13, fvar14, bind_ok, bind_stuck, toS_ok, toS_stuck, ofO_some, optS_some, gname_, truD_bl, Bool.not_true, Bool.not_false, Bool.false_eq_true, if_true, if_false, List.cons_append, List.nil_append, List.append_nil, List.set_cons_zero, List.set_cons_succ, endD_rt, endD_nx, ge_int, gt_int, le_int, lt_int, eq_int, add_int, sub_int, int_int, len_tup, isi_non_int, isi_non_bool, isi_non_str, isi_non_tuple, isi_bl_int, isi_bl_bool, isi_bl_str, isi_bl_tuple, isi_int_int, isi_int_bool, isi_int_str, isi_int_tuple, isi_str_int, isi_str_bool, isi_str_str, isi_str_tuple, isi_tup_int, isi_tup_bool, isi_tup_str, isi_tup_tuple, isi_lst_int, isi_lst_bool, isi_lst_str, isi_lst_tuple, is_str, l_sn, ne_int, ffor_]
            by_cases hl : r.length = 2
            · obtain ⟨a, b, rfl⟩ := two hl
              simp only [goods, Bool.and_true, Bool.and_eq_true] at gr
              simp only [wts] at hw
              have q1 := c1 a st1 gr.1 (by omega)
              have q2 := c2 b st1 gr.2
              have i1 : ixD (.tup [.str w, a, b]) (.int (0 + 1)) st1 = .ok a st1 := ixS _ _ 0 st1 a rfl
              have i2 : ixD (.tup [.str w, a, b]) (.int (1 + 1)) st1 = .ok b st1 := ixS _ _ 1 st1 b rfl
              have rg := rg2 (fcallO lenD (fcons (fvar 1) fnil)) [some (D.tup [.str w, a, b]), some (.str "sn"), none, none] st1 rfl
              rw [zip_sn]
              simp only [fseq_, fifS_, fret_, fasg_, fdrop_, fskip_, for__, fand_, fnot_, ftru_, fif_, fbool_, fchain_, fandV_, forV_, fnotV_, fneg_, fcallO_, fapp_, fcons_, fnil_, fcon_, fbin_, ftup_, flst_, fmatch_, fvar0, fvar1, fvar2, fvar3, fvar4, fvar5, fvar6, fvar7, fvar8, fvar9, fvar10, fvar11, fvar12, fvar13, fvar14, bind_ok, bind_stuck, toS_ok, toS_stuck, ofO_some, optS_some, gname_, truD_bl, Bool.not_true, Bool.not_false, Bool.false_eq_true, if_true, if_false, List.cons_append, List.nil_append, List.append_nil, List.set_cons_zero, List.set_cons_succ, endD_rt, endD_nx, ge_int, gt_int, le_int, lt_int, eq_int, add_int, sub_int, int_int, len_tup, isi_non_int, isi_non_bool, isi_non_str, isi_non_tuple, isi_bl_int, isi_bl_bool, isi_bl_str, isi_bl_tuple, isi_int_int, isi_int_bool, isi_int_str, isi_int_tuple, isi_str_int, isi_str_bool, isi_str_str, isi_str_tuple, isi_tup_int, isi_tup_bool, isi_tup_str, isi_tup_tuple, isi_lst_int, isi_lst_bool, isi_lst_str, isi_lst_tuple, show (((([D.str w, a, b].length : Nat) : Int) == 2 + 1)) = true from rfl, rg, forL, ssn0, ssn1, ssn2, sn0, sn1, cs0, cs1, eq_ss, eq_ns, eq_cs, eq_sn, eq_nn, eq_cn, i1, q1]
              cases isNam a with
              | false => simp only [fseq_, fifS_, fret_, fasg_, fdrop_, fskip_, for__, fand_, fnot_, ftru_, fif_, fbool_, fchain_, fandV_, forV_, fnotV_, fneg_, fcallO_, fapp_, fcons_, fnil_, fcon_, fbin_, ftup_, flst_, fmatch_, fvar0, fvar1, fvar2, fvar3, fvar4, fvar5, fvar6, fvar7, fvar8, fvar9, fvar10, fvar11, fvar12, fvar13, fvar14, bind_ok, bind_stuck, toS_ok, toS_stuck, ofO_some, optS_some, gname_, truD_bl, Bool.not_true, Bool.not_false, Bool.false_eq_true, if_true, if_false, List.cons_append, List.nil_append, List.append_nil, List.set_cons_zero, List.set_cons_succ, endD_rt, endD_nx, ge_int, gt_int, le_int, lt_int, eq_int, add_int, sub_int, int_int, len_tup, isi_non_int, isi_non_bool, isi_non_str, isi_non_tuple, isi_bl_int, isi_bl_bool, isi_bl_str, isi_bl_tuple, isi_int_int, isi_int_bool, isi_int_str, isi_int_tuple, isi_str_int, isi_str_bool, isi_str_str, isi_str_tuple, isi_tup_int, isi_tup_bool, isi_tup_str, isi_tup_tuple, isi_lst_int, isi_lst_bool, isi_lst_str, isi_lst_tuple, Bool.false_and, Bool.and_false]
              | true =>
                simp only [fseq_, fifS_, fret_, fasg_, fdrop_, fskip_, for__, fand_, fnot_, ftru_, fif_, fbool_, fchain_, fandV_, forV_, fnotV_, fneg_, fcallO_, fapp_, fcons_, fnil_, fcon_, fbin_, ftup_, flst_, fmatch_, fvar0, fvar1, fvar2, fvar3, fvar4, fvar5, fvar6, fvar7, fvar8, fvar9, fvar10, fvar11, fvar12, fvar13, fvar14, bind_ok, bind_stuck, toS_ok, toS_stuck, ofO_some, optS_some, gname_, truD_bl, Bool.not_true, Bool.not_false, Bool.false_eq_true, if_true, if_false, List.cons_append, List.nil_append, List.append_nil, List.set_cons_zero, List.set_cons_succ, endD_rt, endD_nx, ge_int, gt_int, le_int, lt_int, eq_int, add_int, sub_int, int_int, len_tup, isi_non_int, isi_non_bool, isi_non_str, isi_non_tuple, isi_bl_int, isi_bl_bool, isi_bl_str, isi_bl_tuple, isi_int_int, isi_int_bool, isi_int_str, isi_int_tuple, isi_str_int, isi_str_bool, isi_str_str, isi_str_tuple, isi_tup_int, isi_tup_bool, isi_tup_str, isi_tup_tuple, isi_lst_int, isi_lst_bool, isi_lst_str, isi_lst_tuple, forL, ssn0, ssn1, ssn2, sn0, sn1, cs0, cs1, eq_ss, eq_ns, eq_cs, eq_sn, eq_nn, eq_cn, i2, q2]
                cases hq : isNum b with
                | false => simp only [fseq_, fifS_, fret_, fasg_, fdrop_, fskip_, for__, fand_, fnot_, ftru_, fif_, fbool_, fchain_, fandV_, forV_, fnotV_, fneg_, fcallO_, fapp_, fcons_, fnil_, fcon_, fbin_, ftup_, flst_, fmatch_, fvar0, fvar1, fvar2, fvar3, fvar4, fvar5, fvar6, fvar7, fvar8, fvar9, fvar10, fvar11, fvar12, fvar13, fvar14, bind_ok, bind_stuck, toS_ok, toS_stuck, ofO_some, optS_some, gname_, truD_bl, Bool.not_true, Bool.not_false, Bool.false_eq_true, if_true, if_false, List.cons_append, List.nil_append, List.append_nil, List.set_cons_zero, List.set_cons_succ, endD_rt, endD_nx, ge_int, gt_int, le_int, lt_int, eq_int, add_int, sub_int, int_int, len_tup, isi_non_int, isi_non_bool, isi_non_str, isi_non_tuple, isi_bl_int, isi_bl_bool, isi_bl_str, isi_bl_tuple, isi_int_int, isi_int_bool, isi_int_str, isi_int_tuple, isi_str_int, isi_str_bool, isi_str_str, isi_str_tuple, isi_tup_int, isi_tup_bool, isi_tup_str, isi_tup_tuple, isi_lst_int, isi_lst_bool, isi_lst_str, isi_lst_tuple, num_no hq, Bool.and_false]
                | true =>
                  obtain ⟨i, rfl⟩ := amt_num hq
                  simp only [fseq_, fifS_, fret_, fasg_, fdrop_, fskip_, for__, fand_, fnot_, ftru_, fif_, fbool_, fchain_, fandV_, forV_, fnotV_, fneg_, fcallO_, fapp_, fcons_, fnil_, fcon_, fbin_, ftup_, flst_, fmatch_, fvar0, fvar1, fvar2, fvar3, fvar4, fvar5, fvar6, fvar7, fvar8, fvar9, fvar10, fvar11, fvar12, fvar13, fvar14, bind_ok, bind_stuck, toS_ok, toS_stuck, ofO_some, optS_some, gname_, truD_bl, Bool.not_true, Bool.not_false, Bool.false_eq_true, if_true, if_false, List.cons_append, List.nil_append, List.append_nil, List.set_cons_zero, List.set_cons_succ, endD_rt, endD_nx, ge_int, gt_int, le_int, lt_int, eq_int, add_int, sub_int, int_int, len_tup, isi_non_int, isi_non_bool, isi_non_str, isi_non_tuple, isi_bl_int, isi_bl_bool, isi_bl_str, isi_bl_tuple, isi_int_int, isi_int_bool, isi_int_str, isi_int_tuple, isi_str_int, isi_str_bool, isi_str_str, isi_str_tuple, isi_tup_int, isi_tup_bool, isi_tup_str, isi_tup_tuple, isi_lst_int, isi_lst_bool, isi_lst_str, isi_lst_tuple, forL, ssn0, ssn1, ssn2, sn0, sn1, cs0, cs1, eq_ss, eq_ns, eq_cs, eq_sn, eq_nn, eq_cn, i2]
                  exact fin_amt2 i st1 (by cases decide (i < 1) <;> rfl)
            · have e4 : ((((D.str w :: r).length : Nat) : Int) == 2 + 1) = false := (lens (a := .str w) (r := r) 2).trans (decide_eq_false hl)
              simp only [fseq_, fifS_, fret_, fasg_, fdrop_, fskip_, for__, fand_, fnot_, ftru_, fif_, fbool_, fchain_, fandV_, forV_, fnotV_, fneg_, fcallO_, fapp_, fcons_, fnil_, fcon_, fbin_, ftup_, flst_, fmatch_, fvar0, fvar1, fvar2, fvar3, fvar4, fvar5, fvar6, fvar7, fvar8, fvar9, fvar10, fvar11, fvar12, fvar13, fvar14, bind_ok, bind_stuck, toS_ok, toS_stuck, ofO_some, optS_some, gname_, truD_bl, Bool.not_true, Bool.not_false, Bool.false_eq_true, if_true, if_false, List.cons_append, List.nil_append, List.append_nil, List.set_cons_zero, List.set_cons_succ, endD_rt, endD_nx, ge_int, gt_int, le_int, lt_int, eq_int, add_int, sub_int, int_int, len_tup, isi_non_int, isi_non_bool, isi_non_str, isi_non_tuple, isi_bl_int, isi_bl_bool, isi_bl_str, isi_bl_tuple, isi_int_int, isi_int_bool, isi_int_str, isi_int_tuple, isi_str_int, isi_str_bool, isi_str_str, isi_str_tuple, isi_tup_int, isi_tup_bool, isi_tup_str, isi_tup_tuple, isi_lst_int, isi_lst_bool, isi_lst_str, isi_lst_tuple, e4]
              have : decide (r.length = (("sn" : String) : Str).length) = false := decide_eq_false hl
              rw [this]
              rfl
          · by_cases h3 : w = "back"
            · rw [plan_back h3, isRw3 (plan_back h3)]
              refine fin ?_
              simp only [fseq_, fifS_, fret_, fasg_, fdrop_, fskip_, for__, fand_, fnot_, ftru_, fif_, fbool_, fchain_, fandV_, forV_, fnotV_, fneg_, fcallO_, fapp_, fcons_, fnil_, fcon_, fbin_, ftup_, flst_, fmatch_, fvar0, fvar1, fvar2, fvar3, fvar4, fvar5, fvar6, fvar7, fvar8, fvar9, fvar10, fvar11, fvar12, fvar13, fvar14, bind_ok, bind_stuck, toS_ok, toS_stuck, ofO_some, optS_some, gname_, truD_bl, Bool.not_true, Bool.not_false, Bool.false_eq_true, if_true, if_false, List.cons_append, List.nil_append, List.append_nil, List.set_cons_zero, List.set_cons_succ, endD_rt, endD_nx, ge_int, gt_int, le_int, lt_int, eq_int, add_int, sub_int, int_int, len_tup, isi_non_int, isi_non_bool, isi_non_str, isi_non_tuple, isi_bl_int, isi_bl_bool, isi_bl_str, isi_bl_tuple, isi_int_int, isi_int_bool, isi_int_str, isi_int_tuple, isi_str_int, isi_str_bool, isi_str_str, isi_str_tuple, isi_tup_int, isi_tup_bool, isi_tup_str, isi_tup_tuple, isi_lst_int, isi_lst_bool, isi_lst_str, isi_lst_tuple, is_str, l_cs, ne_int, ffor_]
              by_cases hl : r.length = 2
              · obtain ⟨a, b, rfl⟩ := two hl
                simp only [goods, Bool.and_true, Bool.and_eq_true] at gr
                simp only [wts] at hw
                have q1 := c2 a st1 gr.1
                have q2 := c1 b st1 gr.2 (by omega)
                have i1 : ixD (.tup [.str w, a, b]) (.int (0 + 1)) st1 = .ok a st1 := ixS _ _ 0 st1 a rfl
                have i2 : ixD (.tup [.str w, a, b]) (.int (1 + 1)) st1 = .ok b st1 := ixS _ _ 1 st1 b rfl
                have rg := rg2 (fcallO lenD (fcons (fvar 1) fnil)) [some (D.tup [.str w, a, b]), some (.str "cs"), none, none] st1 rfl
                rw [zip_cs]
                simp only [fseq_, fifS_, fret_, fasg_, fdrop_, fskip_, for__, fand_, fnot_, ftru_, fif_, fbool_, fchain_, fandV_, forV_, fnotV_, fneg_, fcallO_, fapp_, fcons_, fnil_, fcon_, fbin_, ftup_, flst_, fmatch_, fvar0, fvar1, fvar2, fvar3, fvar4, fvar5, fvar6, fvar7, fvar8, fvar9, fvar10, fvar11, fvar12, fvar13, fvar14, bind_ok, bind_stuck, toS_ok, toS_stuck, ofO_some, optS_some, gname_, truD_bl, Bool.not_true, Bool.not_false, Bool.false_eq_true, if_true, if_false, List.cons_append, List.nil_append, List.append_nil, List.set_cons_zero, List.set_cons_succ, endD_rt, endD_nx, ge_int, gt_int, le_int, lt_int, eq_int, add_int, sub_int, int_int, len_tup, isi_non_int, isi_non_bool, isi_non_str, isi_non_tuple, isi_bl_int, isi_bl_bool, isi_bl_str, isi_bl_tuple, isi_int_int, isi_int_bool, isi_int_str, isi_int_tuple, isi_str_int, isi_str_bool, isi_str_str, isi_str_tuple, isi_tup_int, isi_tup_bool, isi_tup_str, isi_tup_tuple, isi_lst_int, isi_lst_bool, isi_lst_str, isi_lst_tuple, show (((([D.str w, a, b].length : Nat) : Int) == 2 + 1)) = true from rfl, rg, forL, ssn0, ssn1, ssn2, sn0, sn1, cs0, cs1, eq_ss, eq_ns, eq_cs, eq_sn, eq_nn, eq_cn, i1, q1]
                cases isNum a with
                | false => simp only [fseq_, fifS_, fret_, fasg_, fdrop_, fskip_, for__, fand_, fnot_, ftru_, fif_, fbool_, fchain_, fandV_, forV_, fnotV_, fneg_, fcallO_, fapp_, fcons_, fnil_, fcon_, fbin_, ftup_, flst_, fmatch_, fvar0, fvar1, fvar2, fvar3, fvar4, fvar5, fvar6, fvar7, fvar8, fvar9, fvar10, fvar11, fvar12, fvar13, fvar14, bind_ok, bind_stuck, toS_ok, toS_stuck, ofO_some, optS_some, gname_, truD_bl, Bool.not_true, Bool.not_false, Bool.false_eq_true, if_true, if_false, List.cons_append, List.nil_append, List.append_nil, List.set_cons_zero, List.set_cons_succ, endD_rt, endD_nx, ge_int, gt_int, le_int, lt_int, eq_int, add_int, sub_int, int_int, len_tup, isi_non_int, isi_non_bool, isi_non_str, isi_non_tuple, isi_bl_int, isi_bl_bool, isi_bl_str, isi_bl_tuple, isi_int_int, isi_int_bool, isi_int_str, isi_int_tuple, isi_str_int, isi_str_bool, isi_str_str, isi_str_tuple, isi_tup_int, isi_tup_bool, isi_tup_str, isi_tup_tuple, isi_lst_int, isi_lst_bool, isi_lst_str, isi_lst_tuple, Bool.false_and, Bool.and_false]
                | true =>
                  simp only [fseq_, fifS_, fret_, fasg_, fdrop_, fskip_, for__, fand_, fnot_, ftru_, fif_, fbool_, fchain_, fandV_, forV_, fnotV_, fneg_, fcallO_, fapp_, fcons_, fnil_, fcon_, fbin_, ftup_, flst_, fmatch_, fvar0, fvar1, fvar2, fvar3, fvar4, fvar5, fvar6, fvar7, fvar8, fvar9, fvar10, fvar11, fvar12, fvar13, fvar14, bind_ok, bind_stuck, toS_ok, toS_stuck, ofO_some, optS_some, gname_, truD_bl, Bool.not_true, Bool.not_false, Bool.false_eq_true, if_true, if_false, List.cons_append, List.nil_append, List.append_nil, List.set_cons_zero, List.set_cons_succ, endD_rt, endD_nx, ge_int, gt_int, le_int, lt_int, eq_int, add_int, sub_int, int_int, len_tup, isi_non_int, isi_non_bool, isi_non_str, isi_non_tuple, isi_bl_int, isi_bl_bool, isi_bl_str, isi_bl_tuple, isi_int_int, isi_int_bool, isi_int_str, isi_int_tuple, isi_str_int, isi_str_bool, isi_str_str, isi_str_tuple, isi_tup_int, isi_tup_bool, isi_tup_str, isi_tup_tuple, isi_lst_int, isi_lst_bool, isi_lst_str, isi_lst_tuple, forL, ssn0, ssn1, ssn2, sn0, sn1, cs0, cs1, eq_ss, eq_ns, eq_cs, eq_sn, eq_nn, eq_cn, i2, q2]
                  cases isNam b with
                  | false => simp only [fseq_, fifS_, fret_, fasg_, fdrop_, fskip_, for__, fand_, fnot_, ftru_, fif_, fbool_, fchain_, fandV_, forV_, fnotV_, fneg_, fcallO_, fapp_, fcons_, fnil_, fcon_, fbin_, ftup_, flst_, fmatch_, fvar0, fvar1, fvar2, fvar3, fvar4, fvar5, fvar6, fvar7, fvar8, fvar9, fvar10, fvar11, fvar12, fvar13, fvar14, bind_ok, bind_stuck, toS_ok, toS_stuck, ofO_some, optS_some, gname_, truD_bl, Bool.not_true, Bool.not_false, Bool.false_eq_true, if_true, if_false, List.cons_append, List.nil_append, List.append_nil, List.set_cons_zero, List.set_cons_succ, endD_rt, endD_nx, ge_int, gt_int, le_int, lt_int, eq_int, add_int, sub_int, int_int, len_tup, isi_non_int, isi_non_bool, isi_non_str, isi_non_tuple, isi_bl_int, isi_bl_bool, isi_bl_str, isi_bl_tuple, isi_int_int, isi_int_bool, isi_int_str, isi_int_tuple, isi_str_int, isi_str_bool, isi_str_str, isi_str_tuple, isi_tup_int, isi_tup_bool, isi_tup_str, isi_tup_tuple, isi_lst_int, isi_lst_bool, isi_lst_str, isi_lst_tuple, Bool.and_false]
                  | true =>
                    simp only [fseq_, fifS_, fret_, fasg_, fdrop_, fskip_, for__, fand_, fnot_, ftru_, fif_, fbool_, fchain_, fandV_, forV_, fnotV_, fneg_, fcallO_, fapp_, fcons_, fnil_, fcon_, fbin_, ftup_, flst_, fmatch_, fvar0, fvar1, fvar2, fvar3, fvar4, fvar5, fvar6, fvar7, fvar8, fvar9, fvar10, fvar11, fvar12, fvar13, fvar14, bind_ok, bind_stuck, toS_ok, toS_stuck, ofO_some, optS_some, gname_, truD_bl, Bool.not_true, Bool.not_false, Bool.false_eq_true, if_true, if_false, List.cons_append, List.nil_append, List.append_nil, List.set_cons_zero, List.set_cons_succ, endD_rt, endD_nx, ge_int, gt_int, le_int, lt_int, eq_int, add_int, sub_int, int_int, len_tup, isi_non_int, isi_non_bool, isi_non_str, isi_non_tuple, isi_bl_int, isi_bl_bool, isi_bl_str, isi_bl_tuple, isi_int_int, isi_int_bool, isi_int_str, isi_int_tuple, isi_str_int, isi_str_bool, isi_str_str, isi_str_tuple, isi_tup_int, isi_tup_bool, isi_tup_str, isi_tup_tuple, isi_lst_int, isi_lst_bool, isi_lst_str, isi_lst_tuple, forL, ssn0, ssn1, ssn2, sn0, sn1, cs0, cs1, eq_ss, eq_ns, eq_cs, eq_sn, eq_nn, eq_cn]
                    rfl
              · have e4 : ((((D.str w :: r).length : Nat) : Int) == 2 + 1) = false := (lens (a := .str w) (r := r) 2).trans (decide_eq_false hl)
                simp only [fseq_, fifS_, fret_, fasg_, fdrop_, fskip_, for__, fand_, fnot_, ftru_, fif_, fbool_, fchain_, fandV_, forV_, fnotV_, fneg_, fcallO_, fapp_, fcons_, fnil_, fcon_, fbin_, ftup_, flst_, fmatch_, fvar0, fvar1, fvar2, fvar3, fvar4, fvar5, fvar6, fvar7, fvar8, fvar9, fvar10, fvar11, fvar12, fvar13, fvar14, bind_ok, bind_stuck, toS_ok, toS_stuck, ofO_some, optS_some, gname_, truD_bl, Bool.not_true, Bool.not_false, Bool.false_eq_true, if_true, if_false, List.cons_append, List.nil_append, List.append_nil, List.set_cons_zero, List.set_cons_succ, endD_rt, endD_nx, ge_int, gt_int, le_int, lt_int, eq_int, add_int, sub_int, int_int, len_tup, isi_non_int, isi_non_bool, isi_non_str, isi_non_tuple, isi_bl_int, isi_bl_bool, isi_bl_str, isi_bl_tuple, isi_int_int, isi_int_bool, isi_int_str, isi_int_tuple, isi_str_int, isi_str_bool, isi_str_str, isi_str_tuple, isi_tup_int, isi_tup_bool, isi_tup_str, isi_tup_tuple, isi_lst_int, isi_lst_bool, isi_lst_str, isi_lst_tuple, e4]
                have : decide (r.length = (("cs" : String) : Str).length) = false := decide_eq_false hl
                rw [this]
                rfl
            · have hr : isRw (.tup (.str w :: r)) = false := by
                unfold isRw
                simp only [plan_none h1 h2 h3]
              rw [plan_none h1 h2 h3, hr]
              refine fin ?_
              simp only [fseq_, fifS_, fret_, fasg_, fdrop_, fskip_, for__, fand_, fnot_, ftru_, fif_, fbool_, fchain_, fandV_, forV_, fnotV_, fneg_, fcallO_, fapp_, fcons_, fnil_, fcon_, fbin_, ftup_, flst_, fmatch_, fvar0, fvar1, fvar2, fvar3, fvar4, fvar5, fvar6, fvar7, fvar8, fvar9, fvar10, fvar11, fvar12, fvar13, fvar14, bind_ok, bind_stuck, toS_ok, toS_stuck, ofO_some, optS_some, gname_, truD_bl, Bool.not_true, Bool.not_false, Bool.false_eq_true, if_true, if_false, List.cons_append, List.nil_append, List.append_nil, List.set_cons_zero, List.set_cons_succ, endD_rt, endD_nx, ge_int, gt_int, le_int, lt_int, eq_int, add_int, sub_int, int_int, len_tup, isi_non_int, isi_non_bool, isi_non_str, isi_non_tuple, isi_bl_int, isi_bl_bool, isi_bl_str, isi_bl_tuple, isi_int_int, isi_int_bool, isi_int_str, isi_int_tuple, isi_str_int, isi_str_bool, isi_str_str, isi_str_tuple, isi_tup_int, isi_tup_bool, isi_tup_str, isi_tup_tuple, isi_lst_int, isi_lst_bool, isi_lst_str, isi_lst_tuple, is_non]
      · simp only [m__law_formed]
        have e := ne_str (x := a) (fun y z => hs ⟨y, z⟩) g0 st
        refine ⟨[], ?_⟩
        simp only [fseq_, fifS_, fret_, fasg_, fdrop_, fskip_, for__, fand_, fnot_, ftru_, fif_, fbool_, fchain_, fandV_, forV_, fnotV_, fneg_, fcallO_, fapp_, fcons_, fnil_, fcon_, fbin_, ftup_, flst_, fmatch_, fvar0, fvar1, fvar2, fvar3, fvar4, fvar5, fvar6, fvar7, fvar8, fvar9, fvar10, fvar11, fvar12, fvar13, fvar14, bind_ok, bind_stuck, toS_ok, toS_stuck, ofO_some, optS_some, gname_, truD_bl, Bool.not_true, Bool.not_false, Bool.false_eq_true, if_true, if_false, List.cons_append, List.nil_append, List.append_nil, List.set_cons_zero, List.set_cons_succ, endD_rt, endD_nx, ge_int, gt_int, le_int, lt_int, eq_int, add_int, sub_int, int_int, len_tup, isi_non_int, isi_non_bool, isi_non_str, isi_non_tuple, isi_bl_int, isi_bl_bool, isi_bl_str, isi_bl_tuple, isi_int_int, isi_int_bool, isi_int_str, isi_int_tuple, isi_str_int, isi_str_bool, isi_str_str, isi_str_tuple, isi_tup_int, isi_tup_bool, isi_tup_str, isi_tup_tuple, isi_lst_int, isi_lst_bool, isi_lst_str, isi_lst_tuple, List.length_nil, Nat.zero_le, en', ix0, e]
        have : isRw (.tup (a :: r)) = false := by
          cases a <;> first | rfl | exact absurd ⟨_, rfl⟩ hs
        rw [this]
  | lst xs =>
    refine ⟨[], ?_⟩
    rw [List.append_nil]
    simp only [m__law_formed]
    simp only [fseq_, fifS_, fret_, fasg_, fdrop_, fskip_, for__, fand_, fnot_, ftru_, fif_, fbool_, fchain_, fandV_, forV_, fnotV_, fneg_, fcallO_, fapp_, fcons_, fnil_, fcon_, fbin_, ftup_, flst_, fmatch_, fvar0, fvar1, fvar2, fvar3, fvar4, fvar5, fvar6, fvar7, fvar8, fvar9, fvar10, fvar11, fvar12, fvar13, fvar14, bind_ok, bind_stuck, toS_ok, toS_stuck, ofO_some, optS_some, gname_, truD_bl, Bool.not_true, Bool.not_false, Bool.false_eq_true, if_true, if_false, List.cons_append, List.nil_append, List.append_nil, List.set_cons_zero, List.set_cons_succ, endD_rt, endD_nx, ge_int, gt_int, le_int, lt_int, eq_int, add_int, sub_int, int_int, len_tup, isi_non_int, isi_non_bool, isi_non_str, isi_non_tuple, isi_bl_int, isi_bl_bool, isi_bl_str, isi_bl_tuple, isi_int_int, isi_int_bool, isi_int_str, isi_int_tuple, isi_str_int, isi_str_bool, isi_str_str, isi_str_tuple, isi_tup_int, isi_tup_bool, isi_tup_str, isi_tup_tuple, isi_lst_int, isi_lst_bool, isi_lst_str, isi_lst_tuple, isRw]
  | _ => first | exact ⟨[], by rw [List.append_nil]; rfl⟩ | cases h
end DL.P
end
section
namespace DL.P
open PySem L2 PyProof.Rows
/-- the law's look at one value: all five agree -/
theorem s_law_right (k : Nat) (x : D) (st : Store) (h : good x = true) (hw : wt x ≤ 1000000) (hd : dp x ≤ 60) : ∃ more, run (k + 4) fe__law_right [x] st = some (.bl true, st ++ more) := by
  rw [run__law_right]
  obtain ⟨more, e4⟩ := s_law_formed (k + 1) x st h hw hd
  refine ⟨more, ?_⟩
  have a1 : cl (k + 3) fe_is_number [0] [x] st = some (.bl (isNum x), st) := s_is_number (k + 2) x st h
  have a2 : cl (k + 3) fe_is_name [0] [x] st = some (.bl (isNam x), st) := s_is_name (k + 2) x st h hw
  have a3 : cl (k + 3) fe_is_place [0] [x] st = some (.bl (isPl x), st) := s_is_place (k + 1) x st h hw
  have a4 : cl (k + 3) fe_is_row [0] [x] st = some (.bl (isRw x), st) := s_is_row k x st h hw
  have a5 : cl (k + 3) fe_is_finding [0] [x] st = some (.bl (isFd x), st) := s_is_finding (k + 1) x st h
  have b1 : cl (k + 3) fe__law_count [0] [x] st = some (.bl (isNum x), st) := s_law_count (k + 2) x st h
  have b2 : cl (k + 3) fe__law_named [0] [x] st = some (.bl (isNam x), st) := s_law_named (k + 2) x st h hw
  have b3 : cl (k + 3) fe__law_placed [0] [x] st = some (.bl (isPl x), st) := s_law_placed (k + 1) x st h hw hd
  have b4 : cl (k + 3) fe__law_formed [0] [x] st = some (.bl (isRw x), st ++ more) := e4
  have b5 : cl (k + 3) fe__law_found [0] [x] (st ++ more) = some (.bl (isFd x), st ++ more) := s_law_found (k + 1) x (st ++ more) h hw hd
  have g : good (.lst [.bl (isNum x), .bl (isNam x), .bl (isPl x), .bl (isRw x), .bl (isFd x)]) = true := rfl
  obtain ⟨p, ep, -, hl, -⟩ := good_P g
  have r := repr_good (st ++ more) g (by simp [dp, dps]) (by simp [wt, wts]) ep
  have q : cmpD .Eq (.str p.shown) (.str p.shown) (st ++ more) = .ok (.bl true) (st ++ more) := by
    refine (eq_strD false p.shown p.shown (st ++ more) (ok_shown hl) (ok_shown hl)).trans ?_
    simp
  simp only [m__law_right]
  simp only [fseq_, fifS_, fret_, fasg_, fdrop_, fskip_, for__, fand_, fnot_, ftru_, fif_, fbool_, fchain_, fandV_, forV_, fnotV_, fneg_, fcallO_, fapp_, fcons_, fnil_, fcon_, fbin_, ftup_, flst_, fmatch_, fvar0, fvar1, fvar2, fvar3, fvar4, fvar5, fvar6, fvar7, fvar8, fvar9, fvar10, fvar11, fvar12, fvar13, fvar14, bind_ok, bind_stuck, toS_ok, toS_stuck, ofO_some, optS_some, gname_, truD_bl, Bool.not_true, Bool.not_false, Bool.false_eq_true, if_true, if_false, List.cons_append, List.nil_append, List.append_nil, List.set_cons_zero, List.set_cons_succ, endD_rt, endD_nx, ge_int, gt_int, le_int, lt_int, eq_int, add_int, sub_int, int_int, len_tup, isi_non_int, isi_non_bool, isi_non_str, isi_non_tuple, isi_bl_int, isi_bl_bool, isi_bl_str, isi_bl_tuple, isi_int_int, isi_int_bool, isi_int_str, isi_int_tuple, isi_str_int, isi_str_bool, isi_str_str, isi_str_tuple, isi_tup_int, isi_tup_bool, isi_tup_str, isi_tup_tuple, isi_lst_int, isi_lst_bool, isi_lst_str, isi_lst_tuple, a1, a2, a3, a4, a5, b1, b2, b3, b4, b5, List.length_cons, List.length_nil, show (0 + 1 + 1 + 1 + 1 + 1 : Nat) ≤ 16777216 by decide, r, q]
end DL.P
end
section
namespace DL.P
open PySem L2 PyProof.Rows
/-- the feed: its cells, where it is, what is left of a great cell, how many draws -/
structure Feed where
  cells : List Int
  a : Int
  l : Int
  c : Int
def Feed.o (F : Feed) : DO := .dk [(.inr "cells", .lst (F.cells.map D.int)), (.inr "at", .int F.a), (.inr "left", .int F.l), (.inr "count", .int F.c)]
structure Feed.Ok (F : Feed) : Prop where
  a : 0 ≤ F.a
  l : 0 ≤ F.l
  n : F.cells.length ≤ 63
theorem ints_P : ∀ l : List Int, ∃ ps, toPs (l.map D.int) = some ps ∧ PyData.canLayAll0 ps = true ∧ PyData.depthAll ps = 0 ∧ ps.isEmpty = l.isEmpty
  | [] => ⟨[], rfl, rfl, rfl, rfl⟩
  | i :: l => by
    obtain ⟨ps, h1, h2, h3, h4⟩ := ints_P l
    exact ⟨.int i :: ps, by simp [toPs, toP, h1], by simp [PyData.canLayAll0, PyData.canLay0, h2], by simp [PyData.depthAll, PyData.depth, h3], rfl⟩
theorem ne_cells (l : List Int) (st : Store) : cmpD .NotEq (.lst (l.map D.int)) (.lst []) st = .ok (.bl (!l.isEmpty)) st := by
  obtain ⟨ps, h1, h2, h3, h4⟩ := ints_P l
  show eqD true _ _ st = _
  unfold eqD
  have e1 : toPS st (.lst (l.map D.int)) = some (.list ps) := by
    unfold toPS
    simp only [seqL, h1, Option.map_some]
  have e2 : toPS st (.lst []) = some (.list []) := rfl
  rw [e1, e2]
  have s1 : SeqAt.shaped (.list ps) = true := by
    unfold SeqAt.shaped
    simp [PyData.canLay0, PyData.depth, h2, h3]
  have s2 : SeqAt.shaped (.list []) = true := by decide +kernel
  simp only [s1, s2, Bool.and_self, if_true, PyData.eqv, eqvAll_nil, h4]
variable {F : Feed} {rest : Store}
theorem ix_cells (F : Feed) (rest : Store) : ixD (.obj 0) (.str "cells") (F.o :: rest) = .ok (.lst (F.cells.map D.int)) (F.o :: rest) := rfl
theorem ix_at (F : Feed) (rest : Store) : ixD (.obj 0) (.str "at") (F.o :: rest) = .ok (.int F.a) (F.o :: rest) := rfl
theorem ix_left (F : Feed) (rest : Store) : ixD (.obj 0) (.str "left") (F.o :: rest) = .ok (.int F.l) (F.o :: rest) := rfl
theorem ix_count (F : Feed) (rest : Store) : ixD (.obj 0) (.str "count") (F.o :: rest) = .ok (.int F.c) (F.o :: rest) := rfl
theorem set_at (F : Feed) (rest : Store) (i : Int) : setD (.obj 0) (.str "at") (.int i) (F.o :: rest) = some (({ F with a := i } : Feed).o :: rest) := rfl
theorem set_left (F : Feed) (rest : Store) (i : Int) : setD (.obj 0) (.str "left") (.int i) (F.o :: rest) = some (({ F with l := i } : Feed).o :: rest) := rfl
theorem set_count (F : Feed) (rest : Store) (i : Int) : setD (.obj 0) (.str "count") (.int i) (F.o :: rest) = some (({ F with c := i } : Feed).o :: rest) := rfl
@[simp] theorem gsub_ {fo fi : FF D} {env : Env'} {st : Store} {d : D} : gsub fo fi d env st = match fo env st with
  | .ok o st1 => match fi env st1 with
    | .ok i st2 => (setD o i d st2).map fun st3 => (env, st3)
    | _ => none
  | _ => none := rfl
theorem gsub_app {fo fi : FF D} {env : Env'} {st st1 st2 : Store} {o i d : D} (h1 : fo env st = .ok o st1) (h2 : fi env st1 = .ok i st2) : gsub fo fi d env st = (setD o i d st2).map fun st3 => (env, st3) := by
  unfold gsub
  rw [h1]
  simp only [h2]
theorem mod_pos {i j : Int} (st : Store) (h : 0 < j) : binD2 .Mod (.int i) (.int j) st = .ok (.int (i % j)) st := by
  show (if decide (0 < j) = true then _ else _) = _
  rw [if_pos (decide_eq_true h)]
theorem div_pos {i j : Int} (st : Store) (h : 0 < j) (h2 : j < 1073741824) : binD2 .FloorDiv (.int i) (.int j) st = .ok (.int (i / j)) st := by
  show (if (decide (0 < j) && decide (j < 1073741824)) = true then _ else _) = _
  rw [if_pos (by simp [h, h2])]
theorem mul_small {i j : Int} (st : Store) (h : -(2 ^ 64) < i) (h2 : i < 2 ^ 64) : binD2 .Mult (.int i) (.int j) st = .ok (.int (i * j)) st := by
  show (if okMul i j = true then _ else _) = _
  rw [if_pos]
  unfold okMul
  rw [decide_eq_true h, decide_eq_true h2]
  rfl
theorem pow18 (st : Store) : binD2 .Pow (.int 10) (.int 18) st = .ok (.int 1000000000000000000) st := rfl
theorem len_lst (xs : List D) (st : Store) : lenD [.lst xs] st = some (.int xs.length, st) := rfl
theorem ix_lst {xs : List D} {i : Int} {d : D} (st : Store) (h : atI xs i = some d) : ixD (.lst xs) (.int i) st = .ok d st := by
  show (match atI xs i with | some d => Res.ok d st | none => .stuck) = _
  rw [h]
theorem at_mod {xs : List Int} (a : Int) (h : xs ≠ []) : ∃ c, atI (xs.map D.int) (a % (xs.length : Int)) = some (.int c) := by
  have hl : 0 < xs.length := List.length_pos_iff.mpr h
  have h0 : 0 ≤ a % (xs.length : Int) := Int.emod_nonneg _ (by omega)
  have h1 : a % (xs.length : Int) < xs.length := Int.emod_lt_of_pos _ (by omega)
  refine ⟨xs[(a % (xs.length : Int)).toNat]'(by omega), ?_⟩
  unfold atI ixN
  rw [if_pos h0, List.length_map, if_pos (by omega)]
  simp only [Option.bind_some, List.getElem?_map]
  rw [List.getElem?_eq_getElem (by omega)]
  rfl
/-- one draw: a number below m; of the store the feed alone changes -/
theorem s_draw (k : Nat) (m : Int) (hm : 0 < m) (hm2 : m < 1073741824) (F : Feed) (ok : F.Ok) (rest : Store) :
    ∃ (F' : Feed) (d : Int), run (k + 1) fe__law_draw [.obj 0, .int m] (F.o :: rest) = some (.int d, F'.o :: rest) ∧ 0 ≤ d ∧ d < m ∧ F'.Ok := by
  rw [run__law_draw]
  simp only [m__law_draw]
  simp only [fseq_, fifS_, fret_, fasg_, fdrop_, fskip_, for__, fand_, fnot_, ftru_, fif_, fbool_, fchain_, fandV_, forV_, fnotV_, fneg_, fcallO_, fapp_, fcons_, fnil_, fcon_, fbin_, ftup_, flst_, fmatch_, fvar0, fvar1, fvar2, fvar3, fvar4, fvar5, fvar6, fvar7, fvar8, fvar9, fvar10, fvar11, fvar12, fvar13, fvar14, bind_ok, bind_stuck, toS_ok, toS_stuck, ofO_some, optS_some, gname_, truD_bl, Bool.not_true, Bool.not_false, Bool.false_eq_true, if_true, if_false, List.cons_append, List.nil_append, List.append_nil, List.set_cons_zero, List.set_cons_succ, endD_rt, endD_nx, ge_int, gt_int, le_int, lt_int, eq_int, add_int, sub_int, int_int, len_tup, isi_non_int, isi_non_bool, isi_non_str, isi_non_tuple, isi_bl_int, isi_bl_bool, isi_bl_str, isi_bl_tuple, isi_int_int, isi_int_bool, isi_int_str, isi_int_tuple, isi_str_int, isi_str_bool, isi_str_str, isi_str_tuple, isi_tup_int, isi_tup_bool, isi_tup_str, isi_tup_tuple, isi_lst_int, isi_lst_bool, isi_lst_str, isi_lst_tuple, ix_count, gsub_, set_count, Option.map_some, ix_left]
  by_cases hl : 0 < F.l
  · rw [decide_eq_true hl]
    simp only [fseq_, fifS_, fret_, fasg_, fdrop_, fskip_, for__, fand_, fnot_, ftru_, fif_, fbool_, fchain_, fandV_, forV_, fnotV_, fneg_, fcallO_, fapp_, fcons_, fnil_, fcon_, fbin_, ftup_, flst_, fmatch_, fvar0, fvar1, fvar2, fvar3, fvar4, fvar5, fvar6, fvar7, fvar8, fvar9, fvar10, fvar11, fvar12, fvar13, fvar14, bind_ok, bind_stuck, toS_ok, toS_stuck, ofO_some, optS_some, gname_, truD_bl, Bool.not_true, Bool.not_false, Bool.false_eq_true, if_true, if_false, List.cons_append, List.nil_append, List.append_nil, List.set_cons_zero, List.set_cons_succ, endD_rt, endD_nx, ge_int, gt_int, le_int, lt_int, eq_int, add_int, sub_int, int_int, len_tup, isi_non_int, isi_non_bool, isi_non_str, isi_non_tuple, isi_bl_int, isi_bl_bool, isi_bl_str, isi_bl_tuple, isi_int_int, isi_int_bool, isi_int_str, isi_int_tuple, isi_str_int, isi_str_bool, isi_str_str, isi_str_tuple, isi_tup_int, isi_tup_bool, isi_tup_str, isi_tup_tuple, isi_lst_int, isi_lst_bool, isi_lst_str, isi_lst_tuple, ix_left, mod_pos _ hm, div_pos _ hm hm2, gsub_, set_left, Option.map_some]
    exact ⟨_, _, rfl, Int.emod_nonneg _ (by omega), Int.emod_lt_of_pos _ hm, ok.a, Int.ediv_nonneg ok.l (by omega), ok.n⟩
  · rw [decide_eq_false hl]
    simp only [fseq_, fifS_, fret_, fasg_, fdrop_, fskip_, for__, fand_, fnot_, ftru_, fif_, fbool_, fchain_, fandV_, forV_, fnotV_, fneg_, fcallO_, fapp_, fcons_, fnil_, fcon_, fbin_, ftup_, flst_, fmatch_, fvar0, fvar1, fvar2, fvar3, fvar4, fvar5, fvar6, fvar7, fvar8, fvar9, fvar10, fvar11, fvar12, fvar13, fvar14, bind_ok, bind_stuck, toS_ok, toS_stuck, ofO_some, optS_some, gname_, truD_bl, Bool.not_true, Bool.not_false, Bool.false_eq_true, if_true, if_false, List.cons_append, List.nil_append, List.append_nil, List.set_cons_zero, List.set_cons_succ, endD_rt, endD_nx, ge_int, gt_int, le_int, lt_int, eq_int, add_int, sub_int, int_int, len_tup, isi_non_int, isi_non_bool, isi_non_str, isi_non_tuple, isi_bl_int, isi_bl_bool, isi_bl_str, isi_bl_tuple, isi_int_int, isi_int_bool, isi_int_str, isi_int_tuple, isi_str_int, isi_str_bool, isi_str_str, isi_str_tuple, isi_tup_int, isi_tup_bool, isi_tup_str, isi_tup_tuple, isi_lst_int, isi_lst_bool, isi_lst_str, isi_lst_tuple, ix_at, gsub_, set_at, Option.map_some, ix_cells, List.length_nil, Nat.zero_le, ne_cells]
    have hcell : ∃ cell : Int, (if (!F.cells.isEmpty) = true then
        ((ofO (lenD [.lst (F.cells.map D.int)] (({ F with a := F.a + 1, c := F.c + 1 } : Feed).o :: rest))).bind fun y st2 => binD2 .Mod (.int F.a) y st2).bind fun y st2 => ixD (.lst (F.cells.map D.int)) y st2
        else Res.ok (.int 67) (({ F with a := F.a + 1, c := F.c + 1 } : Feed).o :: rest)) = .ok (.int cell) (({ F with a := F.a + 1, c := F.c + 1 } : Feed).o :: rest) := by
      by_cases he : F.cells = []
      · rw [he]; exact ⟨67, rfl⟩
      · have e1 : (!F.cells.isEmpty) = true := by
          cases h : F.cells with
          | nil => exact absurd h he
          | cons _ _ => rfl
        have hl0 : 0 < F.cells.length := List.length_pos_iff.mpr he
        obtain ⟨c, hc⟩ := at_mod F.a he
        refine ⟨c, ?_⟩
        rw [if_pos e1]
        simp only [fseq_, fifS_, fret_, fasg_, fdrop_, fskip_, for__, fand_, fnot_, ftru_, fif_, fbool_, fchain_, fandV_, forV_, fnotV_, fneg_, fcallO_, fapp_, fcons_, fnil_, fcon_, fbin_, ftup_, flst_, fmatch_, fvar0, fvar1, fvar2, fvar3, fvar4, fvar5, fvar6, fvar7, fvar8, fvar9, fvar10, fvar11, fvar12, fvar13, fvar14, bind_ok, bind_stuck, toS_ok, toS_stuck, ofO_some, optS_some, gname_, truD_bl, Bool.not_true, Bool.not_false, Bool.false_eq_true, if_true, if_false, List.cons_append, List.nil_append, List.append_nil, List.set_cons_zero, List.set_cons_succ, endD_rt, endD_nx, ge_int, gt_int, le_int, lt_int, eq_int, add_int, sub_int, int_int, len_tup, isi_non_int, isi_non_bool, isi_non_str, isi_non_tuple, isi_bl_int, isi_bl_bool, isi_bl_str, isi_bl_tuple, isi_int_int, isi_int_bool, isi_int_str, isi_int_tuple, isi_str_int, isi_str_bool, isi_str_str, isi_str_tuple, isi_tup_int, isi_tup_bool, isi_tup_str, isi_tup_tuple, isi_lst_int, isi_lst_bool, isi_lst_str, isi_lst_tuple, len_lst, List.length_map, mod_pos _ (show (0 : Int) < (F.cells.length : Int) by omega), ix_lst _ hc]
    obtain ⟨cell, hcell⟩ := hcell
    simp only [hcell]
    simp only [fseq_, fifS_, fret_, fasg_, fdrop_, fskip_, for__, fand_, fnot_, ftru_, fif_, fbool_, fchain_, fandV_, forV_, fnotV_, fneg_, fcallO_, fapp_, fcons_, fnil_, fcon_, fbin_, ftup_, flst_, fmatch_, fvar0, fvar1, fvar2, fvar3, fvar4, fvar5, fvar6, fvar7, fvar8, fvar9, fvar10, fvar11, fvar12, fvar13, fvar14, bind_ok, bind_stuck, toS_ok, toS_stuck, ofO_some, optS_some, gname_, truD_bl, Bool.not_true, Bool.not_false, Bool.false_eq_true, if_true, if_false, List.cons_append, List.nil_append, List.append_nil, List.set_cons_zero, List.set_cons_succ, endD_rt, endD_nx, ge_int, gt_int, le_int, lt_int, eq_int, add_int, sub_int, int_int, len_tup, isi_non_int, isi_non_bool, isi_non_str, isi_non_tuple, isi_bl_int, isi_bl_bool, isi_bl_str, isi_bl_tuple, isi_int_int, isi_int_bool, isi_int_str, isi_int_tuple, isi_str_int, isi_str_bool, isi_str_str, isi_str_tuple, isi_tup_int, isi_tup_bool, isi_tup_str, isi_tup_tuple, isi_lst_int, isi_lst_bool, isi_lst_str, isi_lst_tuple, pow18]
    by_cases h1 : 1000000000000000000 ≤ cell
    · rw [decide_eq_true h1]
      simp only [fseq_, fifS_, fret_, fasg_, fdrop_, fskip_, for__, fand_, fnot_, ftru_, fif_, fbool_, fchain_, fandV_, forV_, fnotV_, fneg_, fcallO_, fapp_, fcons_, fnil_, fcon_, fbin_, ftup_, flst_, fmatch_, fvar0, fvar1, fvar2, fvar3, fvar4, fvar5, fvar6, fvar7, fvar8, fvar9, fvar10, fvar11, fvar12, fvar13, fvar14, bind_ok, bind_stuck, toS_ok, toS_stuck, ofO_some, optS_some, gname_, truD_bl, Bool.not_true, Bool.not_false, Bool.false_eq_true, if_true, if_false, List.cons_append, List.nil_append, List.append_nil, List.set_cons_zero, List.set_cons_succ, endD_rt, endD_nx, ge_int, gt_int, le_int, lt_int, eq_int, add_int, sub_int, int_int, len_tup, isi_non_int, isi_non_bool, isi_non_str, isi_non_tuple, isi_bl_int, isi_bl_bool, isi_bl_str, isi_bl_tuple, isi_int_int, isi_int_bool, isi_int_str, isi_int_tuple, isi_str_int, isi_str_bool, isi_str_str, isi_str_tuple, isi_tup_int, isi_tup_bool, isi_tup_str, isi_tup_tuple, isi_lst_int, isi_lst_bool, isi_lst_str, isi_lst_tuple, ix_cells, len_lst, List.length_map]
      by_cases h2 : F.a < (F.cells.length : Int)
      · rw [decide_eq_true h2]
        simp only [fseq_, fifS_, fret_, fasg_, fdrop_, fskip_, for__, fand_, fnot_, ftru_, fif_, fbool_, fchain_, fandV_, forV_, fnotV_, fneg_, fcallO_, fapp_, fcons_, fnil_, fcon_, fbin_, ftup_, flst_, fmatch_, fvar0, fvar1, fvar2, fvar3, fvar4, fvar5, fvar6, fvar7, fvar8, fvar9, fvar10, fvar11, fvar12, fvar13, fvar14, bind_ok, bind_stuck, toS_ok, toS_stuck, ofO_some, optS_some, gname_, truD_bl, Bool.not_true, Bool.not_false, Bool.false_eq_true, if_true, if_false, List.cons_append, List.nil_append, List.append_nil, List.set_cons_zero, List.set_cons_succ, endD_rt, endD_nx, ge_int, gt_int, le_int, lt_int, eq_int, add_int, sub_int, int_int, len_tup, isi_non_int, isi_non_bool, isi_non_str, isi_non_tuple, isi_bl_int, isi_bl_bool, isi_bl_str, isi_bl_tuple, isi_int_int, isi_int_bool, isi_int_str, isi_int_tuple, isi_str_int, isi_str_bool, isi_str_str, isi_str_tuple, isi_tup_int, isi_tup_bool, isi_tup_str, isi_tup_tuple, isi_lst_int, isi_lst_bool, isi_lst_str, isi_lst_tuple, div_pos _ hm hm2, set_left, Option.map_some, mod_pos _ hm]
        exact ⟨_, _, rfl, Int.emod_nonneg _ (by omega), Int.emod_lt_of_pos _ hm, by have := ok.a; show 0 ≤ F.a + 1; omega, Int.ediv_nonneg (by omega) (by omega), ok.n⟩
      · rw [decide_eq_false h2]
        simp only [fseq_, fifS_, fret_, fasg_, fdrop_, fskip_, for__, fand_, fnot_, ftru_, fif_, fbool_, fchain_, fandV_, forV_, fnotV_, fneg_, fcallO_, fapp_, fcons_, fnil_, fcon_, fbin_, ftup_, flst_, fmatch_, fvar0, fvar1, fvar2, fvar3, fvar4, fvar5, fvar6, fvar7, fvar8, fvar9, fvar10, fvar11, fvar12, fvar13, fvar14, bind_ok, bind_stuck, toS_ok, toS_stuck, ofO_some, optS_some, gname_, truD_bl, Bool.not_true, Bool.not_false, Bool.false_eq_true, if_true, if_false, List.cons_append, List.nil_append, List.append_nil, List.set_cons_zero, List.set_cons_succ, endD_rt, endD_nx, ge_int, gt_int, le_int, lt_int, eq_int, add_int, sub_int, int_int, len_tup, isi_non_int, isi_non_bool, isi_non_str, isi_non_tuple, isi_bl_int, isi_bl_bool, isi_bl_str, isi_bl_tuple, isi_int_int, isi_int_bool, isi_int_str, isi_int_tuple, isi_str_int, isi_str_bool, isi_str_str, isi_str_tuple, isi_tup_int, isi_tup_bool, isi_tup_str, isi_tup_tuple, isi_lst_int, isi_lst_bool, isi_lst_str, isi_lst_tuple, ix_count, mod_pos _ (show (0 : Int) < 1000000321 by decide), mul_small _ (show -(2 ^ 64) < (110017 : Int) by decide) (show (110017 : Int) < 2 ^ 64 by decide), mod_pos _ (show (0 : Int) < 2147483477 by decide)]
        generalize hx : (cell % 1000000321 + 110017 * (F.c + 1) + 47) % 2147483477 = x
        have x1 : 0 ≤ x := by rw [← hx]; exact Int.emod_nonneg _ (by decide)
        have x2 : x < 2147483477 := by rw [← hx]; exact Int.emod_lt_of_pos _ (by decide)
        simp only [fseq_, fifS_, fret_, fasg_, fdrop_, fskip_, for__, fand_, fnot_, ftru_, fif_, fbool_, fchain_, fandV_, forV_, fnotV_, fneg_, fcallO_, fapp_, fcons_, fnil_, fcon_, fbin_, ftup_, flst_, fmatch_, fvar0, fvar1, fvar2, fvar3, fvar4, fvar5, fvar6, fvar7, fvar8, fvar9, fvar10, fvar11, fvar12, fvar13, fvar14, bind_ok, bind_stuck, toS_ok, toS_stuck, ofO_some, optS_some, gname_, truD_bl, Bool.not_true, Bool.not_false, Bool.false_eq_true, if_true, if_false, List.cons_append, List.nil_append, List.append_nil, List.set_cons_zero, List.set_cons_succ, endD_rt, endD_nx, ge_int, gt_int, le_int, lt_int, eq_int, add_int, sub_int, int_int, len_tup, isi_non_int, isi_non_bool, isi_non_str, isi_non_tuple, isi_bl_int, isi_bl_bool, isi_bl_str, isi_bl_tuple, isi_int_int, isi_int_bool, isi_int_str, isi_int_tuple, isi_str_int, isi_str_bool, isi_str_str, isi_str_tuple, isi_tup_int, isi_tup_bool, isi_tup_str, isi_tup_tuple, isi_lst_int, isi_lst_bool, isi_lst_str, isi_lst_tuple, mul_small _ (show -(2 ^ 64) < x by omega) (show x < 2 ^ 64 by omega), ix_count, mul_small _ (show -(2 ^ 64) < (4100021 : Int) by decide) (show (4100021 : Int) < 2 ^ 64 by decide), mod_pos _ (show (0 : Int) < 2147483423 by decide)]
        generalize hy : (x * x + 4100021 * (F.c + 1) + 31) % 2147483423 = y
        have y1 : 0 ≤ y := by rw [← hy]; exact Int.emod_nonneg _ (by decide)
        have y2 : y < 2147483423 := by rw [← hy]; exact Int.emod_lt_of_pos _ (by decide)
        simp only [fseq_, fifS_, fret_, fasg_, fdrop_, fskip_, for__, fand_, fnot_, ftru_, fif_, fbool_, fchain_, fandV_, forV_, fnotV_, fneg_, fcallO_, fapp_, fcons_, fnil_, fcon_, fbin_, ftup_, flst_, fmatch_, fvar0, fvar1, fvar2, fvar3, fvar4, fvar5, fvar6, fvar7, fvar8, fvar9, fvar10, fvar11, fvar12, fvar13, fvar14, bind_ok, bind_stuck, toS_ok, toS_stuck, ofO_some, optS_some, gname_, truD_bl, Bool.not_true, Bool.not_false, Bool.false_eq_true, if_true, if_false, List.cons_append, List.nil_append, List.append_nil, List.set_cons_zero, List.set_cons_succ, endD_rt, endD_nx, ge_int, gt_int, le_int, lt_int, eq_int, add_int, sub_int, int_int, len_tup, isi_non_int, isi_non_bool, isi_non_str, isi_non_tuple, isi_bl_int, isi_bl_bool, isi_bl_str, isi_bl_tuple, isi_int_int, isi_int_bool, isi_int_str, isi_int_tuple, isi_str_int, isi_str_bool, isi_str_str, isi_str_tuple, isi_tup_int, isi_tup_bool, isi_tup_str, isi_tup_tuple, isi_lst_int, isi_lst_bool, isi_lst_str, isi_lst_tuple, mul_small _ (show -(2 ^ 64) < y by omega) (show y < 2 ^ 64 by omega), mul_small _ (show -(2 ^ 64) < (101 : Int) by decide) (show (101 : Int) < 2 ^ 64 by decide), mod_pos _ (show (0 : Int) < 2147483399 by decide), div_pos _ (show (0 : Int) < 16 by decide) (show (16 : Int) < 1073741824 by decide), mod_pos _ hm]
        exact ⟨_, _, rfl, Int.emod_nonneg _ (by omega), Int.emod_lt_of_pos _ hm, by have := ok.a; show 0 ≤ F.a + 1; omega, ok.l, ok.n⟩
    · rw [decide_eq_false h1]
      simp only [fseq_, fifS_, fret_, fasg_, fdrop_, fskip_, for__, fand_, fnot_, ftru_, fif_, fbool_, fchain_, fandV_, forV_, fnotV_, fneg_, fcallO_, fapp_, fcons_, fnil_, fcon_, fbin_, ftup_, flst_, fmatch_, fvar0, fvar1, fvar2, fvar3, fvar4, fvar5, fvar6, fvar7, fvar8, fvar9, fvar10, fvar11, fvar12, fvar13, fvar14, bind_ok, bind_stuck, toS_ok, toS_stuck, ofO_some, optS_some, gname_, truD_bl, Bool.not_true, Bool.not_false, Bool.false_eq_true, if_true, if_false, List.cons_append, List.nil_append, List.append_nil, List.set_cons_zero, List.set_cons_succ, endD_rt, endD_nx, ge_int, gt_int, le_int, lt_int, eq_int, add_int, sub_int, int_int, len_tup, isi_non_int, isi_non_bool, isi_non_str, isi_non_tuple, isi_bl_int, isi_bl_bool, isi_bl_str, isi_bl_tuple, isi_int_int, isi_int_bool, isi_int_str, isi_int_tuple, isi_str_int, isi_str_bool, isi_str_str, isi_str_tuple, isi_tup_int, isi_tup_bool, isi_tup_str, isi_tup_tuple, isi_lst_int, isi_lst_bool, isi_lst_str, isi_lst_tuple, ix_count, mod_pos _ (show (0 : Int) < 1000000321 by decide), mul_small _ (show -(2 ^ 64) < (110017 : Int) by decide) (show (110017 : Int) < 2 ^ 64 by decide), mod_pos _ (show (0 : Int) < 2147483477 by decide)]
      generalize hx : (cell % 1000000321 + 110017 * (F.c + 1) + 47) % 2147483477 = x
      have x1 : 0 ≤ x := by rw [← hx]; exact Int.emod_nonneg _ (by decide)
      have x2 : x < 2147483477 := by rw [← hx]; exact Int.emod_lt_of_pos _ (by decide)
      simp only [fseq_, fifS_, fret_, fasg_, fdrop_, fskip_, for__, fand_, fnot_, ftru_, fif_, fbool_, fchain_, fandV_, forV_, fnotV_, fneg_, fcallO_, fapp_, fcons_, fnil_, fcon_, fbin_, ftup_, flst_, fmatch_, fvar0, fvar1, fvar2, fvar3, fvar4, fvar5, fvar6, fvar7, fvar8, fvar9, fvar10, fvar11, fvar12, fvar13, fvar14, bind_ok, bind_stuck, toS_ok, toS_stuck, ofO_some, optS_some, gname_, truD_bl, Bool.not_true, Bool.not_false, Bool.false_eq_true, if_true, if_false, List.cons_append, List.nil_append, List.append_nil, List.set_cons_zero, List.set_cons_succ, endD_rt, endD_nx, ge_int, gt_int, le_int, lt_int, eq_int, add_int, sub_int, int_int, len_tup, isi_non_int, isi_non_bool, isi_non_str, isi_non_tuple, isi_bl_int, isi_bl_bool, isi_bl_str, isi_bl_tuple, isi_int_int, isi_int_bool, isi_int_str, isi_int_tuple, isi_str_int, isi_str_bool, isi_str_str, isi_str_tuple, isi_tup_int, isi_tup_bool, isi_tup_str, isi_tup_tuple, isi_lst_int, isi_lst_bool, isi_lst_str, isi_lst_tuple, mul_small _ (show -(2 ^ 64) < x by omega) (show x < 2 ^ 64 by omega), ix_count, mul_small _ (show -(2 ^ 64) < (4100021 : Int) by decide) (show (4100021 : Int) < 2 ^ 64 by decide), mod_pos _ (show (0 : Int) < 2147483423 by decide)]
      generalize hy : (x * x + 4100021 * (F.c + 1) + 31) % 2147483423 = y
      have y1 : 0 ≤ y := by rw [← hy]; exact Int.emod_nonneg _ (by decide)
      have y2 : y < 2147483423 := by rw [← hy]; exact Int.emod_lt_of_pos _ (by decide)
      simp only [fseq_, fifS_, fret_, fasg_, fdrop_, fskip_, for__, fand_, fnot_, ftru_, fif_, fbool_, fchain_, fandV_, forV_, fnotV_, fneg_, fcallO_, fapp_, fcons_, fnil_, fcon_, fbin_, ftup_, flst_, fmatch_, fvar0, fvar1, fvar2, fvar3, fvar4, fvar5, fvar6, fvar7, fvar8, fvar9, fvar10, fvar11, fvar12, fvar13, fvar14, bind_ok, bind_stuck, toS_ok, toS_stuck, ofO_some, optS_some, gname_, truD_bl, Bool.not_true, Bool.not_false, Bool.false_eq_true, if_true, if_false, List.cons_append, List.nil_append, List.append_nil, List.set_cons_zero, List.set_cons_succ, endD_rt, endD_nx, ge_int, gt_int, le_int, lt_int, eq_int, add_int, sub_int, int_int, len_tup, isi_non_int, isi_non_bool, isi_non_str, isi_non_tuple, isi_bl_int, isi_bl_bool, isi_bl_str, isi_bl_tuple, isi_int_int, isi_int_bool, isi_int_str, isi_int_tuple, isi_str_int, isi_str_bool, isi_str_str, isi_str_tuple, isi_tup_int, isi_tup_bool, isi_tup_str, isi_tup_tuple, isi_lst_int, isi_lst_bool, isi_lst_str, isi_lst_tuple, mul_small _ (show -(2 ^ 64) < y by omega) (show y < 2 ^ 64 by omega), mul_small _ (show -(2 ^ 64) < (101 : Int) by decide) (show (101 : Int) < 2 ^ 64 by decide), mod_pos _ (show (0 : Int) < 2147483399 by decide), div_pos _ (show (0 : Int) < 16 by decide) (show (16 : Int) < 1073741824 by decide), mod_pos _ hm]
      exact ⟨_, _, rfl, Int.emod_nonneg _ (by omega), Int.emod_lt_of_pos _ hm, by have := ok.a; show 0 ≤ F.a + 1; omega, ok.l, ok.n⟩
end DL.P
end
section
namespace DL.P
open PySem L2 PyProof.Rows
mutual
/-- good, with ints below B -/
def gd (B : Nat) : D → Bool
  | .non => true
  | .bl _ => true
  | .int i => decide (i.natAbs < B)
  | .str x => PyData.strOk x
  | .tup xs => gds B xs
  | .lst xs => gds B xs
  | _ => false
def gds (B : Nat) : List D → Bool
  | [] => true
  | x :: r => gd B x && gds B r
end
theorem gds_mem {B : Nat} : ∀ {xs : List D} {x : D}, gds B xs = true → x ∈ xs → gd B x = true
  | y :: r, x, h, m => by
    simp only [gds, Bool.and_eq_true] at h
    rcases List.mem_cons.mp m with rfl | m
    · exact h.1
    · exact gds_mem h.2 m
theorem gds_all {B : Nat} : ∀ {xs : List D}, (∀ x ∈ xs, gd B x = true) → gds B xs = true
  | [], _ => rfl
  | x :: r, h => by
    simp only [gds, h x List.mem_cons_self, gds_all fun y hy => h y (List.mem_cons_of_mem _ hy), Bool.and_self]
mutual
theorem gd_mono {B B' : Nat} (hb : B ≤ B') : ∀ {x : D}, gd B x = true → gd B' x = true
  | .non, _ => rfl
  | .bl _, _ => rfl
  | .int i, h => by simp only [gd, decide_eq_true_eq] at h ⊢; omega
  | .str x, h => h
  | .tup xs, h => by simp only [gd] at h ⊢; exact gds_mono hb h
  | .lst xs, h => by simp only [gd] at h ⊢; exact gds_mono hb h
  | .ty _, h => by cases h
  | .adr _, h => by cases h
  | .scr _, h => by cases h
  | .obj _, h => by cases h
theorem gds_mono {B B' : Nat} (hb : B ≤ B') : ∀ {xs : List D}, gds B xs = true → gds B' xs = true
  | [], _ => rfl
  | x :: r, h => by
    simp only [gds, Bool.and_eq_true] at h ⊢
    exact ⟨gd_mono hb h.1, gds_mono hb h.2⟩
end
mutual
theorem gd_good {B : Nat} (hb : B ≤ 10 ^ 62) : ∀ {x : D}, gd B x = true → good x = true
  | .non, _ => rfl
  | .bl _, _ => rfl
  | .int i, h => by simp only [gd, good, decide_eq_true_eq] at h ⊢; omega
  | .str x, h => h
  | .tup xs, h => by simp only [gd, good] at h ⊢; exact gds_good hb h
  | .lst xs, h => by simp only [gd, good] at h ⊢; exact gds_good hb h
  | .ty _, h => by cases h
  | .adr _, h => by cases h
  | .scr _, h => by cases h
  | .obj _, h => by cases h
theorem gds_good {B : Nat} (hb : B ≤ 10 ^ 62) : ∀ {xs : List D}, gds B xs = true → goods xs = true
  | [], _ => rfl
  | x :: r, h => by
    simp only [gds, goods, Bool.and_eq_true] at h ⊢
    exact ⟨gd_good hb h.1, gds_good hb h.2⟩
end
theorem gds_append {B : Nat} {xs ys : List D} (h1 : gds B xs = true) (h2 : gds B ys = true) : gds B (xs ++ ys) = true := gds_all fun x hx => by
  rcases List.mem_append.mp hx with m | m
  · exact gds_mem h1 m
  · exact gds_mem h2 m
theorem gds_sub {B : Nat} {xs ys : List D} (h : List.Sublist xs ys) (g : gds B ys = true) : gds B xs = true := gds_all fun x hx => gds_mem g (h.subset hx)
/-- of some size -/
structure Sb (B : Nat) (x : D) (w d : Nat) : Prop where
  g : gd B x = true
  w : wt x ≤ w
  d : dp x ≤ d
def oddL : List D := [.non, .bl true, .bl false, .int 0, .int (-1), .int 1, .str "", .str "tank", .str "ash", .str "bad", .tup [], .lst [], .tup [.str "bad", .int 0], .tup [.str "sell", .str "tank", .int 1], .int 5, .tup [.str "a"]]
theorem odd_sz : ∀ v ∈ oddL, gd 10 v = true ∧ wt v ≤ 200 ∧ dp v ≤ 1 := by decide +kernel
theorem s_odd (k : Nat) (F : Feed) (ok : F.Ok) (rest : Store) : ∃ (v : D) (F' : Feed), run (k + 2) fe__law_odd [.obj 0] (F.o :: rest) = some (v, F'.o :: rest) ∧ F'.Ok ∧ Sb 10 v 200 1 := by
  rw [run__law_odd]
  obtain ⟨F', d, e, h0, h1, ok'⟩ := s_draw k 16 (by decide) (by decide) F ok rest
  have e' : cl (k + 1) fe__law_draw [0, 1] [.obj 0, .int 16] (F.o :: rest) = some (.int d, F'.o :: rest) := e
  obtain ⟨v, hv, hi⟩ := atI_mem (xs := oddL) (i := d) h0 (by show d < ((16 : Nat) : Int); omega)
  obtain ⟨g1, g2, g3⟩ := odd_sz v hv
  refine ⟨v, F', ?_, ok', g1, g2, g3⟩
  have q : ixD (.lst oddL) (.int d) (F'.o :: rest) = .ok v (F'.o :: rest) := ix_lst _ hi
  simp only [m__law_odd]
  simp only [fseq_, fifS_, fret_, fasg_, fdrop_, fskip_, for__, fand_, fnot_, ftru_, fif_, fbool_, fchain_, fandV_, forV_, fnotV_, fneg_, fcallO_, fapp_, fcons_, fnil_, fcon_, fbin_, ftup_, flst_, fmatch_, fvar0, fvar1, fvar2, fvar3, fvar4, fvar5, fvar6, fvar7, fvar8, fvar9, fvar10, fvar11, fvar12, fvar13, fvar14, bind_ok, bind_stuck, toS_ok, toS_stuck, ofO_some, optS_some, gname_, truD_bl, Bool.not_true, Bool.not_false, Bool.false_eq_true, if_true, if_false, List.cons_append, List.nil_append, List.append_nil, List.set_cons_zero, List.set_cons_succ, endD_rt, endD_nx, ge_int, gt_int, le_int, lt_int, eq_int, add_int, sub_int, int_int, len_tup, isi_non_int, isi_non_bool, isi_non_str, isi_non_tuple, isi_bl_int, isi_bl_bool, isi_bl_str, isi_bl_tuple, isi_int_int, isi_int_bool, isi_int_str, isi_int_tuple, isi_str_int, isi_str_bool, isi_str_str, isi_str_tuple, isi_tup_int, isi_tup_bool, isi_tup_str, isi_tup_tuple, isi_lst_int, isi_lst_bool, isi_lst_str, isi_lst_tuple, List.length_cons, List.length_nil, Nat.zero_le, show (0 + 1 + 1 + 1 + 1 + 1 + 1 + 1 + 1 + 1 + 1 + 1 + 1 + 1 + 1 + 1 + 1 : Nat) ≤ 16777216 by decide, show (0 + 1 : Nat) ≤ 16777216 by decide, show (0 + 1 + 1 : Nat) ≤ 16777216 by decide, show (0 + 1 + 1 + 1 : Nat) ≤ 16777216 by decide, e']
  have q' : ixD (.lst [.non, .bl true, .bl false, .int 0, .int (-1), .int 1, .str "", .str "tank", .str "ash", .str "bad", .tup [], .lst [], .tup [.str "bad", .int 0], .tup [.str "sell", .str "tank", .int 1], .int 5, .tup [.str "a"]]) (.int d) (F'.o :: rest) = .ok v (F'.o :: rest) := q
  rw [q']
  simp only [fseq_, fifS_, fret_, fasg_, fdrop_, fskip_, for__, fand_, fnot_, ftru_, fif_, fbool_, fchain_, fandV_, forV_, fnotV_, fneg_, fcallO_, fapp_, fcons_, fnil_, fcon_, fbin_, ftup_, flst_, fmatch_, fvar0, fvar1, fvar2, fvar3, fvar4, fvar5, fvar6, fvar7, fvar8, fvar9, fvar10, fvar11, fvar12, fvar13, fvar14, bind_ok, bind_stuck, toS_ok, toS_stuck, ofO_some, optS_some, gname_, truD_bl, Bool.not_true, Bool.not_false, Bool.false_eq_true, if_true, if_false, List.cons_append, List.nil_append, List.append_nil, List.set_cons_zero, List.set_cons_succ, endD_rt, endD_nx, ge_int, gt_int, le_int, lt_int, eq_int, add_int, sub_int, int_int, len_tup, isi_non_int, isi_non_bool, isi_non_str, isi_non_tuple, isi_bl_int, isi_bl_bool, isi_bl_str, isi_bl_tuple, isi_int_int, isi_int_bool, isi_int_str, isi_int_tuple, isi_str_int, isi_str_bool, isi_str_str, isi_str_tuple, isi_tup_int, isi_tup_bool, isi_tup_str, isi_tup_tuple, isi_lst_int, isi_lst_bool, isi_lst_str, isi_lst_tuple]
end DL.P
end
section
namespace DL.P
open PySem L2 PyProof.Rows
theorem fslice_ (m : Bool) (f : FF D) (lo hi : FF (Option Int)) (env : Env') (st : Store) : fslice m f lo hi env st = (f env st).bind fun x st1 => (lo env st1).bind fun l st2 => (hi env st2).bind fun h st3 => sliceD m x l h st3 := rfl
theorem fpart_ (f : FF D) (env : Env') (st : Store) : fpart f env st = (f env st).bind fun d st1 => match d with | .int i => .ok (some i) st1 | _ => .stuck := rfl
theorem fpartN_ (env : Env') (st : Store) : fpartN env st = .ok none st := rfl
theorem fstep_ (m : Bool) (f : FF D) (lo hi k : FF (Option Int)) (env : Env') (st : Store) : fstep m f lo hi k env st = (f env st).bind fun x st1 => (lo env st1).bind fun l st2 => (hi env st2).bind fun h st3 => (k env st3).bind fun c st4 => stepD m x l h c st4 := rfl
theorem sl_tup (xs : List D) (lo hi : Option Int) (st : Store) : sliceD false (.tup xs) lo hi st = .ok (.tup (cutD xs lo hi)) st := rfl
theorem add_tup {xs ys : List D} (st : Store) (h : xs.length + ys.length ≤ 16777216) : binD2 .Add (.tup xs) (.tup ys) st = .ok (.tup (xs ++ ys)) st := by
  show (if xs.length + ys.length ≤ 16777216 then _ else _) = _
  rw [if_pos h]
theorem add_lst {xs ys : List D} (st : Store) (h : xs.length + ys.length ≤ 16777216) : binD2 .Add (.lst xs) (.lst ys) st = .ok (.lst (xs ++ ys)) st := by
  show (if xs.length + ys.length ≤ 16777216 then _ else _) = _
  rw [if_pos h]
theorem add_str {x y : Str} (st : Store) (h : x.length + y.length ≤ 16777216) : binD2 .Add (.str x) (.str y) st = .ok (.str (x ++ y)) st := by
  show (if x.length + y.length ≤ 16777216 then _ else _) = _
  rw [if_pos h]
theorem cut_to {xs : List D} {i : Int} (h0 : 0 ≤ i) (h1 : i ≤ xs.length) : cutD xs none (some i) = xs.take i.toNat := by
  unfold cutD HT.sIx
  dsimp only
  rw [if_neg (by omega)]
  simp only [List.drop_zero, Nat.sub_zero]
  congr 1
  omega
theorem cut_from {xs : List D} {i : Int} (h0 : 0 ≤ i) (h1 : i ≤ xs.length) : cutD xs (some i) none = xs.drop i.toNat := by
  unfold cutD HT.sIx
  dsimp only
  rw [if_neg (by omega)]
  have e : min i.toNat xs.length = i.toNat := by omega
  simp only [e]
  exact List.take_of_length_le (by simp)
theorem split_at {xs : List D} {n : Nat} {v : D} (h : xs[n]? = some v) : xs = xs.take n ++ v :: xs.drop (n + 1) := by
  obtain ⟨hn, e⟩ := List.getElem?_eq_some_iff.mp h
  rw [← e, ← List.drop_eq_getElem_cons hn, List.take_append_drop]
theorem wt_split {xs : List D} {n : Nat} {v : D} (h : xs[n]? = some v) : wts xs = wts (xs.take n) + (wt v + 2 + wts (xs.drop (n + 1))) ∧ dps xs = max (dps (xs.take n)) (max (dp v) (dps (xs.drop (n + 1)))) := by
  have e := split_at h
  refine ⟨?_, ?_⟩
  · conv => lhs; rw [e]
    rw [wts_append]
    rfl
  · conv => lhs; rw [e]
    rw [dps_append]
    rfl
theorem at_nat {xs : List D} {i : Int} (h0 : 0 ≤ i) (h1 : i < xs.length) : ∃ v, xs[i.toNat]? = some v ∧ atI xs i = some v := by
  have hn : i.toNat < xs.length := by omega
  refine ⟨xs[i.toNat], List.getElem?_eq_getElem hn, ?_⟩
  unfold atI ixN
  rw [if_pos h0, if_pos (by omega)]
  simp only [Option.bind_some]
  exact List.getElem?_eq_getElem hn
theorem ix_tup {xs : List D} {i : Int} {d : D} (st : Store) (h : atI xs i = some d) : ixD (.tup xs) (.int i) st = .ok d st := by
  show (match atI xs i with | some d => Res.ok d st | none => .stuck) = _
  rw [h]
theorem Sb.mono {B B' : Nat} {x : D} {w d w' d' : Nat} (h : Sb B x w d) (hb : B ≤ B') (h1 : w ≤ w') (h2 : d ≤ d') : Sb B' x w' d' := ⟨gd_mono hb h.g, Nat.le_trans h.w h1, Nat.le_trans h.d h2⟩
theorem ne_nilT {x : D} (st : Store) (h : good x = true) (hd : dp x ≤ 64) : cmpD .NotEq x (.tup []) st = .ok (.bl (!(match x with | .tup xs => xs.isEmpty | _ => false))) st := by
  exact eq_nilT true st h hd
/-- the seven ways with a tuple -/
def seven (xs : List D) : List D := [.lst xs, .tup (cutD xs (some 1) none), .tup (cutD xs none (some (-1))), .tup (xs ++ cutD xs (some (-1)) none)] ++ [.tup xs.reverse, .tup [.tup xs], .tup (xs ++ [.non])]
theorem seven_sz {B : Nat} {xs : List D} (h : gds B xs = true) : ∀ v ∈ seven xs, Sb B v (3 * wt (.tup xs) + 700) (dp (.tup xs) + 1) := by
  intro v hv
  have c1 := cut_sub xs (some 1) none
  have c2 := cut_sub xs none (some (-1))
  have c3 := cut_sub xs (some (-1)) none
  have w1 := wts_sub c1
  have w2 := wts_sub c2
  have w3 := wts_sub c3
  have d1 := dps_sub c1
  have d2 := dps_sub c2
  have d3 := dps_sub c3
  simp only [seven, List.cons_append, List.nil_append, List.mem_cons, List.not_mem_nil, or_false] at hv
  have hr : gds B xs.reverse = true := gds_all fun x hx => gds_mem h (List.mem_reverse.mp hx)
  rcases hv with rfl | rfl | rfl | rfl | rfl | rfl | rfl
  · exact ⟨h, by simp only [wt]; omega, by simp only [dp]; omega⟩
  · exact ⟨gds_sub c1 h, by simp only [wt]; omega, by simp only [dp]; omega⟩
  · exact ⟨gds_sub c2 h, by simp only [wt]; omega, by simp only [dp]; omega⟩
  · exact ⟨gds_append h (gds_sub c3 h), by simp only [wt, wts_append]; omega, by simp only [dp, dps_append]; omega⟩
  · exact ⟨hr, by simp only [wt, wts_rev]; omega, by simp only [dp, dps_rev]; omega⟩
  · exact ⟨by simp only [gd, gds, h, Bool.and_self], by simp only [wt, wts]; omega, by simp only [dp, dps]; omega⟩
  · exact ⟨gds_append h rfl, by simp only [wt, wts_append, wts]; omega, by simp only [dp, dps_append, dps]; omega⟩
def sixS (x : Str) : List D := [.str (x ++ "a"), .str (cutS x none (some (-1))), .str (Txt.upper x), .str (x ++ " "), .lst [.str x], .str (x ++ "abcdefgh")]
theorem sixS_sz {B : Nat} {x : Str} (h : PyData.strOk x = true) : ∀ v ∈ sixS x, Sb B v (3 * wt (.str x) + 700) (dp (.str x) + 1) := by
  intro v hv
  obtain ⟨c1, c2⟩ := cutS_le x none (some (-1))
  have u1 := PyProof.Rows.len_upper x
  simp only [sixS, List.mem_cons, List.not_mem_nil, or_false] at hv
  have a1 : (("a" : String) : Str).length = 1 := rfl
  have a2 : ((" " : String) : Str).length = 1 := rfl
  have a3 : (("abcdefgh" : String) : Str).length = 8 := rfl
  rcases hv with rfl | rfl | rfl | rfl | rfl | rfl
  · exact ⟨ok_append h (by decide +kernel), by simp only [wt, strLen_append]; omega, by simp only [dp]; omega⟩
  · exact ⟨c2 h, by simp only [wt]; omega, by simp only [dp]; omega⟩
  · exact ⟨ok_upper h, by simp only [wt]; omega, by simp only [dp]; omega⟩
  · exact ⟨ok_append h (by decide +kernel), by simp only [wt, strLen_append]; omega, by simp only [dp]; omega⟩
  · exact ⟨by simp only [gd, gds, h, Bool.and_self], by simp only [wt, wts]; omega, by simp only [dp, dps]; omega⟩
  · exact ⟨ok_append h (by decide +kernel), by simp only [wt, strLen_append]; omega, by simp only [dp]; omega⟩
def sixI (i : Int) : List D := [.int (i + 1), .int (i - 1), .bl (i == 1), .str ((toString i : String) : Str), .int (0 - i), .lst [.int i]]
theorem sixI_sz {B : Nat} {i : Int} (h : i.natAbs < B) (hb : B ≤ 10 ^ 60) : ∀ v ∈ sixI i, Sb (B + 1) v 910 1 := by
  intro v hv
  simp only [sixI, List.mem_cons, List.not_mem_nil, or_false] at hv
  rcases hv with rfl | rfl | rfl | rfl | rfl | rfl
  · exact ⟨by simp only [gd, decide_eq_true_eq]; omega, by simp [wt], by simp [dp]⟩
  · exact ⟨by simp only [gd, decide_eq_true_eq]; omega, by simp [wt], by simp [dp]⟩
  · exact ⟨rfl, by simp [wt], by simp [dp]⟩
  · refine ⟨?_, ?_, by simp [dp]⟩
    · have := ok_shown (p := .int i) (by simp [PyData.canLay0])
      rw [PyData.shown_int] at this
      exact this
    · have := int_text_length_le10 (a := i) (k := 62) (by decide) (by have : (10 : Nat) ^ 60 ≤ 10 ^ 62 := by decide +kernel
                                                                      omega)
      have e : ((toString i : String) : Str).length = (toString i).length := PySem.ofString_length _
      simp only [wt]
      omega
  · exact ⟨by simp only [gd, decide_eq_true_eq]; omega, by simp [wt], by simp [dp]⟩
  · exact ⟨by simp only [gd, gds, Bool.and_true, decide_eq_true_eq]; omega, by simp [wt, wts], by simp [dp, dps]⟩
def sixB (b : Bool) : List D := [.int (bI b + 1), .int (bI b - 1), .bl (bI b == 1), .str (if b then "True" else "False" : String), .int (0 - bI b), .lst [.bl b]]
theorem sixB_sz (b : Bool) : ∀ v ∈ sixB b, Sb 10 v 200 1 := by
  have : ∀ b : Bool, ∀ v ∈ sixB b, gd 10 v = true ∧ wt v ≤ 200 ∧ dp v ≤ 1 := by decide +kernel
  intro v hv
  obtain ⟨h1, h2, h3⟩ := this b v hv
  exact ⟨h1, h2, h3⟩
end DL.P
end
section
namespace DL.P
open PySem L2 PyProof.Rows
def bent_head (k : Nat) : FS := (fifS (fand (ftru (fcallO isiD (fcons (fvar 1) (fcons (fcon (.ty "tuple")) fnil)))) (fand (fbool (fbin (cmpD .NotEq) (fvar 1) (ftup fnil))) (fbool (fbin (cmpD .Gt) (fcallO (cl k fe__law_draw [0, 1]) (fapp (fcons (fvar 0) (fcons (fcon (.int 6)) fnil)) fnil)) (fcon (.int 0))))))
  (fseq (fasg (fcallO (cl k fe__law_draw [0, 1]) (fapp (fcons (fvar 0) (fcons (fcallO lenD (fcons (fvar 1) fnil)) fnil)) fnil)) (gname 3))
  (fseq (fret (fbin (binD2 .Add) (fbin (binD2 .Add) (fslice false (fvar 1) fpartN (fpart (fvar 3))) (ftup (fcons (fcallO (cl k fe__law_bent [0, 1]) (fapp (fcons (fvar 0) (fcons (fbin ixD (fvar 1) (fvar 3)) fnil)) fnil)) fnil))) (fslice false (fvar 1) (fpart (fbin (binD2 .Add) (fvar 3) (fcon (.int 1)))) fpartN)))
  fskip))
  fskip)
def bent_tail (k : Nat) : FS := (fseq (fasg (fcallO (cl k fe__law_draw [0, 1]) (fapp (fcons (fvar 0) (fcons (fcon (.int 9)) fnil)) fnil)) (gname 2))
 (fseq (fifS (fand (ftru (fcallO isiD (fcons (fvar 1) (fcons (fcon (.ty "tuple")) fnil)))) (fbool (fbin (cmpD .Lt) (fvar 2) (fcon (.int 7)))))
  (fseq (fasg (flst false (fcons (fcallO (listD false) (fcons (fvar 1) fnil)) (fcons (fslice false (fvar 1) (fpart (fcon (.int 1))) fpartN) (fcons (fslice false (fvar 1) fpartN (fpart (fneg (fcon (.int 1))))) (fcons (fbin (binD2 .Add) (fvar 1) (fslice false (fvar 1) (fpart (fneg (fcon (.int 1)))) fpartN)) fnil))))) (gname 4))
  (fseq (fret (fbin ixD (fbin (binD2 .Add) (fvar 4) (flst false (fcons (fstep false (fvar 1) fpartN fpartN (fpart (fneg (fcon (.int 1))))) (fcons (ftup (fcons (fvar 1) fnil)) (fcons (fbin (binD2 .Add) (fvar 1) (ftup (fcons (fcon .non) fnil))) fnil))))) (fvar 2)))
  fskip))
  fskip)
 (fseq (fifS (fand (ftru (fcallO isiD (fcons (fvar 1) (fcons (fcon (.ty "str")) fnil)))) (fbool (fbin (cmpD .Lt) (fvar 2) (fcon (.int 6)))))
  (fseq (fret (fbin ixD (flst false (fcons (fbin (binD2 .Add) (fvar 1) (fcon (.str "a"))) (fcons (fslice false (fvar 1) fpartN (fpart (fneg (fcon (.int 1))))) (fcons (fmeth "str" upperD (fvar 1) fnil) (fcons (fbin (binD2 .Add) (fvar 1) (fcon (.str " "))) (fcons (flst false (fcons (fvar 1) fnil)) (fcons (fbin (binD2 .Add) (fvar 1) (fcon (.str "abcdefgh"))) fnil))))))) (fvar 2)))
  fskip)
  fskip)
 (fseq (fifS (fand (ftru (fcallO isiD (fcons (fvar 1) (fcons (fcon (.ty "int")) fnil)))) (fbool (fbin (cmpD .Lt) (fvar 2) (fcon (.int 6)))))
  (fseq (fret (fbin ixD (flst false (fcons (fbin (binD2 .Add) (fvar 1) (fcon (.int 1))) (fcons (fbin (binD2 .Sub) (fvar 1) (fcon (.int 1))) (fcons (fbin (cmpD .Eq) (fvar 1) (fcon (.int 1))) (fcons (fcallO strD2 (fcons (fvar 1) fnil)) (fcons (fbin (binD2 .Sub) (fcon (.int 0)) (fvar 1)) (fcons (flst false (fcons (fvar 1) fnil)) fnil))))))) (fvar 2)))
  fskip)
  fskip)
 (fseq (fret (fcallO (cl k fe__law_odd [0]) (fapp (fcons (fvar 0) fnil) fnil)))
 fskip)))))
theorem bent_parts (k : Nat) : m__law_bent k = fseq (bent_head k) (bent_tail k) := rfl
theorem str_int (i : Int) (st : Store) (h : i.natAbs < 10 ^ 62) : strD2 [.int i] st = some (.str ((toString i : String) : Str), st) := by
  have h2 : i.natAbs < 2 ^ 1919 := Nat.lt_of_lt_of_le h (by decide +kernel)
  have : i.natAbs.log2 < 1920 := by
    by_cases h0 : i.natAbs = 0
    · rw [h0]; decide
    · have := (Nat.log2_lt h0).mpr h2
      omega
  show (if i.natAbs.log2 < 1920 then some (D.str (toString i), st) else none) = _
  rw [if_pos this]
theorem str_bl (b : Bool) (st : Store) : strD2 [.bl b] st = some (.str (if b then "True" else "False" : String), st) := rfl
theorem up_str {x : Str} (st : Store) (h : x.length ≤ 5592405) : upperD (.str x) [] st = some (.str (Txt.upper x), st) := by
  show (if x.length ≤ 5592405 then _ else _) = _
  rw [if_pos h]
theorem ty_str (x : Str) (st : Store) : tyName st (.str x) = some "str" := rfl
theorem list_tup (xs : List D) (st : Store) : listD false [.tup xs] st = some (.lst xs, st) := rfl
theorem sl_str {x : Str} {lo hi : Option Int} (st : Store) (h : x.length ≤ 16777216) : sliceD false (.str x) lo hi st = .ok (.str (cutS x lo hi)) st := by
  show (if x.length ≤ 16777216 then _ else _) = _
  rw [if_pos h]
theorem step_tup {xs : List D} (st : Store) (h : xs.length ≤ 16777216) : stepD false (.tup xs) none none (some (-1)) st = .ok (.tup xs.reverse) st := by
  show (if (-1 : Int) = 0 then Res.stuck else if (-1 : Int) = -1 ∧ (none : Option Int) = none ∧ (none : Option Int) = none ∧ xs.length ≤ 16777216 then Res.ok (D.tup xs.reverse) st else Res.stuck) = _
  rw [if_neg (by decide), if_pos ⟨rfl, rfl, rfl, h⟩]
theorem eq_1 (i : Int) (st : Store) : cmpD .Eq (.int i) (.int 1) st = .ok (.bl (i == 1)) st := rfl
theorem eq_b1 (b : Bool) (st : Store) : cmpD .Eq (.bl b) (.int 1) st = .ok (.bl (bI b == 1)) st := by
  refine (eq_good false st (x := .bl b) (y := .int 1) (p := .bool b) (q := .int 1) rfl (by decide +kernel) (by simp [dp]) (by simp [dp]) rfl rfl).trans ?_
  simp only [PyData.eqv]
  cases b <;> rfl
theorem add_bi (b : Bool) (j : Int) (st : Store) : binD2 .Add (.bl b) (.int j) st = .ok (.int (bI b + j)) st := rfl
theorem sub_bi (b : Bool) (j : Int) (st : Store) : binD2 .Sub (.bl b) (.int j) st = .ok (.int (bI b - j)) st := rfl
theorem sub_ib (b : Bool) (i : Int) (st : Store) : binD2 .Sub (.int i) (.bl b) st = .ok (.int (i - bI b)) st := rfl
/-- below the first test -/
theorem s_tail (B : Nat) (hB : B ≤ 10 ^ 60) (hB2 : 10 ≤ B) (k : Nat) (x : D) (F : Feed) (ok : F.Ok) (rest : Store) (hx : gd B x = true) (hw : wt x ≤ 300000) (hd : dp x ≤ 50) :
    ∃ (y : D) (F' : Feed), endD (bent_tail (k + 2) [some (.obj 0), some x, none, none, none] (F.o :: rest)) = some (y, F'.o :: rest) ∧ F'.Ok ∧ Sb (B + 1) y (3 * wt x + 700) (dp x + 1) := by
  obtain ⟨F1, d, e, h0, h1, ok1⟩ := s_draw (k + 1) 9 (by decide) (by decide) F ok rest
  have e' : cl (k + 2) fe__law_draw [0, 1] [.obj 0, .int 9] (F.o :: rest) = some (.int d, F1.o :: rest) := e
  obtain ⟨v0, F2, eo, ok2, so⟩ := s_odd k F1 ok1 rest
  have eo' : cl (k + 2) fe__law_odd [0] [.obj 0] (F1.o :: rest) = some (v0, F2.o :: rest) := eo
  have so' : Sb (B + 1) v0 (3 * wt x + 700) (dp x + 1) := so.mono (by omega) (by omega) (by omega)
  have n1 : (0 + 1 : Nat) ≤ 16777216 := by decide
  have n3 : (0 + 1 + 1 + 1 : Nat) ≤ 16777216 := by decide
  have n4 : (0 + 1 + 1 + 1 + 1 : Nat) ≤ 16777216 := by decide
  have n6 : (0 + 1 + 1 + 1 + 1 + 1 + 1 : Nat) ≤ 16777216 := by decide
  simp only [bent_tail]
  cases x with
  | tup xs =>
    have hl := len_wts xs
    simp only [wt] at hw
    have c3 := (cut_sub xs (some (-1)) none).length_le
    by_cases h7 : d < 7
    · obtain ⟨v, hv, hi⟩ := atI_mem (xs := seven xs) (i := d) h0 (by show d < ((7 : Nat) : Int); omega)
      have q : ixD (.lst (seven xs)) (.int d) (F1.o :: rest) = .ok v (F1.o :: rest) := ix_lst _ hi
      refine ⟨v, F1, ?_, ok1, (seven_sz (gd_mono (Nat.le_succ B) hx) v hv)⟩
      simp only [seven, List.cons_append, List.nil_append] at q
      simp only [fseq_, fifS_, fret_, fasg_, fdrop_, fskip_, for__, fand_, fnot_, ftru_, fif_, fbool_, fchain_, fandV_, forV_, fnotV_, fneg_, fcallO_, fapp_, fcons_, fnil_, fcon_, fbin_, ftup_, flst_, fmatch_, fvar0, fvar1, fvar2, fvar3, fvar4, fvar5, fvar6, fvar7, fvar8, fvar9, fvar10, fvar11, fvar12, fvar13, fvar14, bind_ok, bind_stuck, toS_ok, toS_stuck, ofO_some, optS_some, gname_, truD_bl, Bool.not_true, Bool.not_false, Bool.false_eq_true, if_true, if_false, List.cons_append, List.nil_append, List.append_nil, List.set_cons_zero, List.set_cons_succ, endD_rt, endD_nx, ge_int, gt_int, le_int, lt_int, eq_int, add_int, sub_int, int_int, len_tup, isi_non_int, isi_non_bool, isi_non_str, isi_non_tuple, isi_bl_int, isi_bl_bool, isi_bl_str, isi_bl_tuple, isi_int_int, isi_int_bool, isi_int_str, isi_int_tuple, isi_str_int, isi_str_bool, isi_str_str, isi_str_tuple, isi_tup_int, isi_tup_bool, isi_tup_str, isi_tup_tuple, isi_lst_int, isi_lst_bool, isi_lst_str, isi_lst_tuple, e', decide_eq_true h7, List.length_cons, List.length_nil, n1, n3, n4, list_tup, fslice_, fpart_, fpartN_, fstep_, sl_tup, add_tup (xs := xs) (ys := cutD xs (some (-1)) none) (F1.o :: rest) (by omega), step_tup (xs := xs) (F1.o :: rest) (by omega),
        add_tup (xs := xs) (ys := [.non]) (F1.o :: rest) (by simp only [List.length_cons, List.length_nil]; omega), add_lst, show (0 + 1 + 1 + 1 + 1 + (0 + 1 + 1 + 1) : Nat) ≤ 16777216 by decide, q]
    · refine ⟨v0, F2, ?_, ok2, so'⟩
      simp only [fseq_, fifS_, fret_, fasg_, fdrop_, fskip_, for__, fand_, fnot_, ftru_, fif_, fbool_, fchain_, fandV_, forV_, fnotV_, fneg_, fcallO_, fapp_, fcons_, fnil_, fcon_, fbin_, ftup_, flst_, fmatch_, fvar0, fvar1, fvar2, fvar3, fvar4, fvar5, fvar6, fvar7, fvar8, fvar9, fvar10, fvar11, fvar12, fvar13, fvar14, bind_ok, bind_stuck, toS_ok, toS_stuck, ofO_some, optS_some, gname_, truD_bl, Bool.not_true, Bool.not_false, Bool.false_eq_true, if_true, if_false, List.cons_append, List.nil_append, List.append_nil, List.set_cons_zero, List.set_cons_succ, endD_rt, endD_nx, ge_int, gt_int, le_int, lt_int, eq_int, add_int, sub_int, int_int, len_tup, isi_non_int, isi_non_bool, isi_non_str, isi_non_tuple, isi_bl_int, isi_bl_bool, isi_bl_str, isi_bl_tuple, isi_int_int, isi_int_bool, isi_int_str, isi_int_tuple, isi_str_int, isi_str_bool, isi_str_str, isi_str_tuple, isi_tup_int, isi_tup_bool, isi_tup_str, isi_tup_tuple, isi_lst_int, isi_lst_bool, isi_lst_str, isi_lst_tuple, e', decide_eq_false h7, eo']
  | str x =>
    simp only [wt] at hw
    by_cases h6 : d < 6
    · obtain ⟨v, hv, hi⟩ := atI_mem (xs := sixS x) (i := d) h0 (by show d < ((6 : Nat) : Int); omega)
      have q : ixD (.lst (sixS x)) (.int d) (F1.o :: rest) = .ok v (F1.o :: rest) := ix_lst _ hi
      refine ⟨v, F1, ?_, ok1, sixS_sz hx v hv⟩
      simp only [sixS] at q
      simp only [fseq_, fifS_, fret_, fasg_, fdrop_, fskip_, for__, fand_, fnot_, ftru_, fif_, fbool_, fchain_, fandV_, forV_, fnotV_, fneg_, fcallO_, fapp_, fcons_, fnil_, fcon_, fbin_, ftup_, flst_, fmatch_, fvar0, fvar1, fvar2, fvar3, fvar4, fvar5, fvar6, fvar7, fvar8, fvar9, fvar10, fvar11, fvar12, fvar13, fvar14, bind_ok, bind_stuck, toS_ok, toS_stuck, ofO_some, optS_some, gname_, truD_bl, Bool.not_true, Bool.not_false, Bool.false_eq_true, if_true, if_false, List.cons_append, List.nil_append, List.append_nil, List.set_cons_zero, List.set_cons_succ, endD_rt, endD_nx, ge_int, gt_int, le_int, lt_int, eq_int, add_int, sub_int, int_int, len_tup, isi_non_int, isi_non_bool, isi_non_str, isi_non_tuple, isi_bl_int, isi_bl_bool, isi_bl_str, isi_bl_tuple, isi_int_int, isi_int_bool, isi_int_str, isi_int_tuple, isi_str_int, isi_str_bool, isi_str_str, isi_str_tuple, isi_tup_int, isi_tup_bool, isi_tup_str, isi_tup_tuple, isi_lst_int, isi_lst_bool, isi_lst_str, isi_lst_tuple, e', decide_eq_true h6, List.length_cons, List.length_nil, n1, n6, fslice_, fpart_, fpartN_, fmeth_, ty_str, up_str (x := x) (F1.o :: rest) (by omega), sl_str (x := x) (F1.o :: rest) (show x.length ≤ 16777216 by omega),
        add_str (x := x) (y := "a") (F1.o :: rest) (by show x.length + 1 ≤ _; omega), add_str (x := x) (y := " ") (F1.o :: rest) (by show x.length + 1 ≤ _; omega), add_str (x := x) (y := "abcdefgh") (F1.o :: rest) (by show x.length + 8 ≤ _; omega), q]
    · refine ⟨v0, F2, ?_, ok2, so'⟩
      simp only [fseq_, fifS_, fret_, fasg_, fdrop_, fskip_, for__, fand_, fnot_, ftru_, fif_, fbool_, fchain_, fandV_, forV_, fnotV_, fneg_, fcallO_, fapp_, fcons_, fnil_, fcon_, fbin_, ftup_, flst_, fmatch_, fvar0, fvar1, fvar2, fvar3, fvar4, fvar5, fvar6, fvar7, fvar8, fvar9, fvar10, fvar11, fvar12, fvar13, fvar14, bind_ok, bind_stuck, toS_ok, toS_stuck, ofO_some, optS_some, gname_, truD_bl, Bool.not_true, Bool.not_false, Bool.false_eq_true, if_true, if_false, List.cons_append, List.nil_append, List.append_nil, List.set_cons_zero, List.set_cons_succ, endD_rt, endD_nx, ge_int, gt_int, le_int, lt_int, eq_int, add_int, sub_int, int_int, len_tup, isi_non_int, isi_non_bool, isi_non_str, isi_non_tuple, isi_bl_int, isi_bl_bool, isi_bl_str, isi_bl_tuple, isi_int_int, isi_int_bool, isi_int_str, isi_int_tuple, isi_str_int, isi_str_bool, isi_str_str, isi_str_tuple, isi_tup_int, isi_tup_bool, isi_tup_str, isi_tup_tuple, isi_lst_int, isi_lst_bool, isi_lst_str, isi_lst_tuple, e', decide_eq_false h6, eo']
  | int i =>
    simp only [gd, decide_eq_true_eq] at hx
    by_cases h6 : d < 6
    · obtain ⟨v, hv, hi⟩ := atI_mem (xs := sixI i) (i := d) h0 (by show d < ((6 : Nat) : Int); omega)
      have q : ixD (.lst (sixI i)) (.int d) (F1.o :: rest) = .ok v (F1.o :: rest) := ix_lst _ hi
      have hi62 : i.natAbs < 10 ^ 62 := by
        have : (10 : Nat) ^ 60 ≤ 10 ^ 62 := by decide +kernel
        omega
      refine ⟨v, F1, ?_, ok1, (sixI_sz hx hB v hv).mono (Nat.le_refl _) (by simp only [wt]; omega) (by simp only [dp]; omega)⟩
      simp only [sixI] at q
      simp only [fseq_, fifS_, fret_, fasg_, fdrop_, fskip_, for__, fand_, fnot_, ftru_, fif_, fbool_, fchain_, fandV_, forV_, fnotV_, fneg_, fcallO_, fapp_, fcons_, fnil_, fcon_, fbin_, ftup_, flst_, fmatch_, fvar0, fvar1, fvar2, fvar3, fvar4, fvar5, fvar6, fvar7, fvar8, fvar9, fvar10, fvar11, fvar12, fvar13, fvar14, bind_ok, bind_stuck, toS_ok, toS_stuck, ofO_some, optS_some, gname_, truD_bl, Bool.not_true, Bool.not_false, Bool.false_eq_true, if_true, if_false, List.cons_append, List.nil_append, List.append_nil, List.set_cons_zero, List.set_cons_succ, endD_rt, endD_nx, ge_int, gt_int, le_int, lt_int, eq_int, add_int, sub_int, int_int, len_tup, isi_non_int, isi_non_bool, isi_non_str, isi_non_tuple, isi_bl_int, isi_bl_bool, isi_bl_str, isi_bl_tuple, isi_int_int, isi_int_bool, isi_int_str, isi_int_tuple, isi_str_int, isi_str_bool, isi_str_str, isi_str_tuple, isi_tup_int, isi_tup_bool, isi_tup_str, isi_tup_tuple, isi_lst_int, isi_lst_bool, isi_lst_str, isi_lst_tuple, e', decide_eq_true h6, List.length_cons, List.length_nil, n1, n6, eq_1, str_int i (F1.o :: rest) hi62, q]
    · refine ⟨v0, F2, ?_, ok2, so'⟩
      simp only [fseq_, fifS_, fret_, fasg_, fdrop_, fskip_, for__, fand_, fnot_, ftru_, fif_, fbool_, fchain_, fandV_, forV_, fnotV_, fneg_, fcallO_, fapp_, fcons_, fnil_, fcon_, fbin_, ftup_, flst_, fmatch_, fvar0, fvar1, fvar2, fvar3, fvar4, fvar5, fvar6, fvar7, fvar8, fvar9, fvar10, fvar11, fvar12, fvar13, fvar14, bind_ok, bind_stuck, toS_ok, toS_stuck, ofO_some, optS_some, gname_, truD_bl, Bool.not_true, Bool.not_false, Bool.false_eq_true, if_true, if_false, List.cons_append, List.nil_append, List.append_nil, List.set_cons_zero, List.set_cons_succ, endD_rt, endD_nx, ge_int, gt_int, le_int, lt_int, eq_int, add_int, sub_int, int_int, len_tup, isi_non_int, isi_non_bool, isi_non_str, isi_non_tuple, isi_bl_int, isi_bl_bool, isi_bl_str, isi_bl_tuple, isi_int_int, isi_int_bool, isi_int_str, isi_int_tuple, isi_str_int, isi_str_bool, isi_str_str, isi_str_tuple, isi_tup_int, isi_tup_bool, isi_tup_str, isi_tup_tuple, isi_lst_int, isi_lst_bool, isi_lst_str, isi_lst_tuple, e', decide_eq_false h6, eo']
  | bl b =>
    by_cases h6 : d < 6
    · obtain ⟨v, hv, hi⟩ := atI_mem (xs := sixB b) (i := d) h0 (by show d < ((6 : Nat) : Int); omega)
      have q : ixD (.lst (sixB b)) (.int d) (F1.o :: rest) = .ok v (F1.o :: rest) := ix_lst _ hi
      refine ⟨v, F1, ?_, ok1, (sixB_sz b v hv).mono (by omega) (by simp only [wt]; omega) (by simp only [dp]; omega)⟩
      simp only [sixB] at q
      simp only [fseq_, fifS_, fret_, fasg_, fdrop_, fskip_, for__, fand_, fnot_, ftru_, fif_, fbool_, fchain_, fandV_, forV_, fnotV_, fneg_, fcallO_, fapp_, fcons_, fnil_, fcon_, fbin_, ftup_, flst_, fmatch_, fvar0, fvar1, fvar2, fvar3, fvar4, fvar5, fvar6, fvar7, fvar8, fvar9, fvar10, fvar11, fvar12, fvar13, fvar14, bind_ok, bind_stuck, toS_ok, toS_stuck, ofO_some, optS_some, gname_, truD_bl, Bool.not_true, Bool.not_false, Bool.false_eq_true, if_true, if_false, List.cons_append, List.nil_append, List.append_nil, List.set_cons_zero, List.set_cons_succ, endD_rt, endD_nx, ge_int, gt_int, le_int, lt_int, eq_int, add_int, sub_int, int_int, len_tup, isi_non_int, isi_non_bool, isi_non_str, isi_non_tuple, isi_bl_int, isi_bl_bool, isi_bl_str, isi_bl_tuple, isi_int_int, isi_int_bool, isi_int_str, isi_int_tuple, isi_str_int, isi_str_bool, isi_str_str, isi_str_tuple, isi_tup_int, isi_tup_bool, isi_tup_str, isi_tup_tuple, isi_lst_int, isi_lst_bool, isi_lst_str, isi_lst_tuple, e', decide_eq_true h6, List.length_cons, List.length_nil, n1, n6, add_bi, sub_bi, sub_ib, eq_b1, str_bl, q]
    · refine ⟨v0, F2, ?_, ok2, so'⟩
      simp only [fseq_, fifS_, fret_, fasg_, fdrop_, fskip_, for__, fand_, fnot_, ftru_, fif_, fbool_, fchain_, fandV_, forV_, fnotV_, fneg_, fcallO_, fapp_, fcons_, fnil_, fcon_, fbin_, ftup_, flst_, fmatch_, fvar0, fvar1, fvar2, fvar3, fvar4, fvar5, fvar6, fvar7, fvar8, fvar9, fvar10, fvar11, fvar12, fvar13, fvar14, bind_ok, bind_stuck, toS_ok, toS_stuck, ofO_some, optS_some, gname_, truD_bl, Bool.not_true, Bool.not_false, Bool.false_eq_true, if_true, if_false, List.cons_append, List.nil_append, List.append_nil, List.set_cons_zero, List.set_cons_succ, endD_rt, endD_nx, ge_int, gt_int, le_int, lt_int, eq_int, add_int, sub_int, int_int, len_tup, isi_non_int, isi_non_bool, isi_non_str, isi_non_tuple, isi_bl_int, isi_bl_bool, isi_bl_str, isi_bl_tuple, isi_int_int, isi_int_bool, isi_int_str, isi_int_tuple, isi_str_int, isi_str_bool, isi_str_str, isi_str_tuple, isi_tup_int, isi_tup_bool, isi_tup_str, isi_tup_tuple, isi_lst_int, isi_lst_bool, isi_lst_str, isi_lst_tuple, e', decide_eq_false h6, eo']
  | non =>
    refine ⟨v0, F2, ?_, ok2, so'⟩
    simp only [fseq_, fifS_, fret_, fasg_, fdrop_, fskip_, for__, fand_, fnot_, ftru_, fif_, fbool_, fchain_, fandV_, forV_, fnotV_, fneg_, fcallO_, fapp_, fcons_, fnil_, fcon_, fbin_, ftup_, flst_, fmatch_, fvar0, fvar1, fvar2, fvar3, fvar4, fvar5, fvar6, fvar7, fvar8, fvar9, fvar10, fvar11, fvar12, fvar13, fvar14, bind_ok, bind_stuck, toS_ok, toS_stuck, ofO_some, optS_some, gname_, truD_bl, Bool.not_true, Bool.not_false, Bool.false_eq_true, if_true, if_false, List.cons_append, List.nil_append, List.append_nil, List.set_cons_zero, List.set_cons_succ, endD_rt, endD_nx, ge_int, gt_int, le_int, lt_int, eq_int, add_int, sub_int, int_int, len_tup, isi_non_int, isi_non_bool, isi_non_str, isi_non_tuple, isi_bl_int, isi_bl_bool, isi_bl_str, isi_bl_tuple, isi_int_int, isi_int_bool, isi_int_str, isi_int_tuple, isi_str_int, isi_str_bool, isi_str_str, isi_str_tuple, isi_tup_int, isi_tup_bool, isi_tup_str, isi_tup_tuple, isi_lst_int, isi_lst_bool, isi_lst_str, isi_lst_tuple, e', eo']
  | lst xs =>
    refine ⟨v0, F2, ?_, ok2, so'⟩
    simp only [fseq_, fifS_, fret_, fasg_, fdrop_, fskip_, for__, fand_, fnot_, ftru_, fif_, fbool_, fchain_, fandV_, forV_, fnotV_, fneg_, fcallO_, fapp_, fcons_, fnil_, fcon_, fbin_, ftup_, flst_, fmatch_, fvar0, fvar1, fvar2, fvar3, fvar4, fvar5, fvar6, fvar7, fvar8, fvar9, fvar10, fvar11, fvar12, fvar13, fvar14, bind_ok, bind_stuck, toS_ok, toS_stuck, ofO_some, optS_some, gname_, truD_bl, Bool.not_true, Bool.not_false, Bool.false_eq_true, if_true, if_false, List.cons_append, List.nil_append, List.append_nil, List.set_cons_zero, List.set_cons_succ, endD_rt, endD_nx, ge_int, gt_int, le_int, lt_int, eq_int, add_int, sub_int, int_int, len_tup, isi_non_int, isi_non_bool, isi_non_str, isi_non_tuple, isi_bl_int, isi_bl_bool, isi_bl_str, isi_bl_tuple, isi_int_int, isi_int_bool, isi_int_str, isi_int_tuple, isi_str_int, isi_str_bool, isi_str_str, isi_str_tuple, isi_tup_int, isi_tup_bool, isi_tup_str, isi_tup_tuple, isi_lst_int, isi_lst_bool, isi_lst_str, isi_lst_tuple, e', eo']
  | _ => cases hx
theorem bent_non (B : Nat) (hB : B ≤ 10 ^ 60) (hB2 : 10 ≤ B) (k : Nat) (x : D) (F : Feed) (rest : Store) (ok : F.Ok) (hx : gd B x = true) (hw : wt x ≤ 300000) (hd : dp x ≤ 50) (hn : ∀ xs, x ≠ .tup xs) :
    ∃ (y : D) (F' : Feed), run (k + 3) fe__law_bent [.obj 0, x] (F.o :: rest) = some (y, F'.o :: rest) ∧ F'.Ok ∧ Sb (B + 1) y (3 * wt x + 700) (dp x + 1) := by
  obtain ⟨y, F', e, h1, h2⟩ := s_tail B hB hB2 k x F ok rest hx hw hd
  refine ⟨y, F', ?_, h1, h2⟩
  rw [run__law_bent, bent_parts, ← e]
  simp only [bent_head]
  cases x with
  | tup xs => exact absurd rfl (hn xs)
  | non => simp only [fseq_, fifS_, fret_, fasg_, fdrop_, fskip_, for__, fand_, fnot_, ftru_, fif_, fbool_, fchain_, fandV_, forV_, fnotV_, fneg_, fcallO_, fapp_, fcons_, fnil_, fcon_, fbin_, ftup_, flst_, fmatch_, fvar0, fvar1, fvar2, fvar3, fvar4, fvar5, fvar6, fvar7, fvar8, fvar9, fvar10, fvar11, fvar12, fvar13, fvar14, bind_ok, bind_stuck, toS_ok, toS_stuck, ofO_some, optS_some, gname_, truD_bl, Bool.not_true, Bool.not_false, Bool.false_eq_true, if_true, if_false, List.cons_append, List.nil_append, List.append_nil, List.set_cons_zero, List.set_cons_succ, endD_rt, endD_nx, ge_int, gt_int, le_int, lt_int, eq_int, add_int, sub_int, int_int, len_tup, isi_non_int, isi_non_bool, isi_non_str, isi_non_tuple, isi_bl_int, isi_bl_bool, isi_bl_str, isi_bl_tuple, isi_int_int, isi_int_bool, isi_int_str, isi_int_tuple, isi_str_int, isi_str_bool, isi_str_str, isi_str_tuple, isi_tup_int, isi_tup_bool, isi_tup_str, isi_tup_tuple, isi_lst_int, isi_lst_bool, isi_lst_str, isi_lst_tuple]
  | bl b => simp only [fseq_, fifS_, fret_, fasg_, fdrop_, fskip_, for__, fand_, fnot_, ftru_, fif_, fbool_, fchain_, fandV_, forV_, fnotV_, fneg_, fcallO_, fapp_, fcons_, fnil_, fcon_, fbin_, ftup_, flst_, fmatch_, fvar0, fvar1, fvar2, fvar3, fvar4, fvar5, fvar6, fvar7, fvar8, fvar9, fvar10, fvar11, fvar12, fvar13, fvar14, bind_ok, bind_stuck, toS_ok, toS_stuck, ofO_some, optS_some, gname_, truD_bl, Bool.not_true, Bool.not_false, Bool.false_eq_true, if_true, if_false, List.cons_append, List.nil_append, List.append_nil, List.set_cons_zero, List.set_cons_succ, endD_rt, endD_nx, ge_int, gt_int, le_int, lt_int, eq_int, add_int, sub_int, int_int, len_tup, isi_non_int, isi_non_bool, isi_non_str, isi_non_tuple, isi_bl_int, isi_bl_bool, isi_bl_str, isi_bl_tuple, isi_int_int, isi_int_bool, isi_int_str, isi_int_tuple, isi_str_int, isi_str_bool, isi_str_str, isi_str_tuple, isi_tup_int, isi_tup_bool, isi_tup_str, isi_tup_tuple, isi_lst_int, isi_lst_bool, isi_lst_str, isi_lst_tuple]
  | int i => simp only [fseq_, fifS_, fret_, fasg_, fdrop_, fskip_, for__, fand_, fnot_, ftru_, fif_, fbool_, fchain_, fandV_, forV_, fnotV_, fneg_, fcallO_, fapp_, fcons_, fnil_, fcon_, fbin_, ftup_, flst_, fmatch_, fvar0, fvar1, fvar2, fvar3, fvar4, fvar5, fvar6, fvar7, fvar8, fvar9, fvar10, fvar11, fvar12, fvar13, fvar14, bind_ok, bind_stuck, toS_ok, toS_stuck, ofO_some, optS_some, gname_, truD_bl, Bool.not_true, Bool.not_false, Bool.false_eq_true, if_true, if_false, List.cons_append, List.nil_append, List.append_nil, List.set_cons_zero, List.set_cons_succ, endD_rt, endD_nx, ge_int, gt_int, le_int, lt_int, eq_int, add_int, sub_int, int_int, len_tup, isi_non_int, isi_non_bool, isi_non_str, isi_non_tuple, isi_bl_int, isi_bl_bool, isi_bl_str, isi_bl_tuple, isi_int_int, isi_int_bool, isi_int_str, isi_int_tuple, isi_str_int, isi_str_bool, isi_str_str, isi_str_tuple, isi_tup_int, isi_tup_bool, isi_tup_str, isi_tup_tuple, isi_lst_int, isi_lst_bool, isi_lst_str, isi_lst_tuple]
  | str x => simp only [fseq_, fifS_, fret_, fasg_, fdrop_, fskip_, for__, fand_, fnot_, ftru_, fif_, fbool_, fchain_, fandV_, forV_, fnotV_, fneg_, fcallO_, fapp_, fcons_, fnil_, fcon_, fbin_, ftup_, flst_, fmatch_, fvar0, fvar1, fvar2, fvar3, fvar4, fvar5, fvar6, fvar7, fvar8, fvar9, fvar10, fvar11, fvar12, fvar13, fvar14, bind_ok, bind_stuck, toS_ok, toS_stuck, ofO_some, optS_some, gname_, truD_bl, Bool.not_true, Bool.not_false, Bool.false_eq_true, if_true, if_false, List.cons_append, List.nil_append, List.append_nil, List.set_cons_zero, List.set_cons_succ, endD_rt, endD_nx, ge_int, gt_int, le_int, lt_int, eq_int, add_int, sub_int, int_int, len_tup, isi_non_int, isi_non_bool, isi_non_str, isi_non_tuple, isi_bl_int, isi_bl_bool, isi_bl_str, isi_bl_tuple, isi_int_int, isi_int_bool, isi_int_str, isi_int_tuple, isi_str_int, isi_str_bool, isi_str_str, isi_str_tuple, isi_tup_int, isi_tup_bool, isi_tup_str, isi_tup_tuple, isi_lst_int, isi_lst_bool, isi_lst_str, isi_lst_tuple]
  | lst xs => simp only [fseq_, fifS_, fret_, fasg_, fdrop_, fskip_, for__, fand_, fnot_, ftru_, fif_, fbool_, fchain_, fandV_, forV_, fnotV_, fneg_, fcallO_, fapp_, fcons_, fnil_, fcon_, fbin_, ftup_, flst_, fmatch_, fvar0, fvar1, fvar2, fvar3, fvar4, fvar5, fvar6, fvar7, fvar8, fvar9, fvar10, fvar11, fvar12, fvar13, fvar14, bind_ok, bind_stuck, toS_ok, toS_stuck, ofO_some, optS_some, gname_, truD_bl, Bool.not_true, Bool.not_false, Bool.false_eq_true, if_true, if_false, List.cons_append, List.nil_append, List.append_nil, List.set_cons_zero, List.set_cons_succ, endD_rt, endD_nx, ge_int, gt_int, le_int, lt_int, eq_int, add_int, sub_int, int_int, len_tup, isi_non_int, isi_non_bool, isi_non_str, isi_non_tuple, isi_bl_int, isi_bl_bool, isi_bl_str, isi_bl_tuple, isi_int_int, isi_int_bool, isi_int_str, isi_int_tuple, isi_str_int, isi_str_bool, isi_str_str, isi_str_tuple, isi_tup_int, isi_tup_bool, isi_tup_str, isi_tup_tuple, isi_lst_int, isi_lst_bool, isi_lst_str, isi_lst_tuple]
  | _ => cases hx
/-- one change at any place -/
theorem s_bent (B : Nat) (hB : B ≤ 10 ^ 60) (hB2 : 10 ≤ B) : ∀ (n k : Nat) (x : D) (F : Feed) (rest : Store), F.Ok → gd B x = true → wt x ≤ 300000 → dp x ≤ n → n ≤ 50 →
    ∃ (y : D) (F' : Feed), run (k + n + 3) fe__law_bent [.obj 0, x] (F.o :: rest) = some (y, F'.o :: rest) ∧ F'.Ok ∧ Sb (B + 1) y (3 * wt x + 700) (dp x + 1) := by
  intro n
  induction n with
  | zero =>
    intro k x F rest ok hx hw hd hn
    refine bent_non B hB hB2 k x F rest ok hx hw (by omega) fun xs e => ?_
    subst e
    simp only [dp] at hd
    omega
  | succ n ih =>
    intro k x F rest ok hx hw hd hn
    cases x with
    | tup xs =>
      have hl := len_wts xs
      have gx : good (.tup xs) = true := gd_good (Nat.le_trans hB (by decide +kernel)) hx
      have nn := ne_nilT (x := .tup xs) (F.o :: rest) gx (by omega)
      rw [run__law_bent, bent_parts]
      cases xs with
      | nil =>
        obtain ⟨y, F', e, h1, h2⟩ := s_tail B hB hB2 (k + n + 1) (.tup []) F ok rest hx hw (by omega)
        refine ⟨y, F', ?_, h1, h2⟩
        have e' : endD (bent_tail (k + (n + 1) + 2) [some (.obj 0), some (.tup []), none, none, none] (F.o :: rest)) = some (y, F'.o :: rest) := e
        rw [← e']
        simp only [bent_head]
        simp only [fseq_, fifS_, fret_, fasg_, fdrop_, fskip_, for__, fand_, fnot_, ftru_, fif_, fbool_, fchain_, fandV_, forV_, fnotV_, fneg_, fcallO_, fapp_, fcons_, fnil_, fcon_, fbin_, ftup_, flst_, fmatch_, fvar0, fvar1, fvar2, fvar3, fvar4, fvar5, fvar6, fvar7, fvar8, fvar9, fvar10, fvar11, fvar12, fvar13, fvar14, bind_ok, bind_stuck, toS_ok, toS_stuck, ofO_some, optS_some, gname_, truD_bl, Bool.not_true, Bool.not_false, Bool.false_eq_true, if_true, if_false, List.cons_append, List.nil_append, List.append_nil, List.set_cons_zero, List.set_cons_succ, endD_rt, endD_nx, ge_int, gt_int, le_int, lt_int, eq_int, add_int, sub_int, int_int, len_tup, isi_non_int, isi_non_bool, isi_non_str, isi_non_tuple, isi_bl_int, isi_bl_bool, isi_bl_str, isi_bl_tuple, isi_int_int, isi_int_bool, isi_int_str, isi_int_tuple, isi_str_int, isi_str_bool, isi_str_str, isi_str_tuple, isi_tup_int, isi_tup_bool, isi_tup_str, isi_tup_tuple, isi_lst_int, isi_lst_bool, isi_lst_str, isi_lst_tuple, List.length_nil, Nat.zero_le, nn, List.isEmpty_nil]
      | cons a r =>
        obtain ⟨F1, d, e, h0, h1, ok1⟩ := s_draw (k + n + 2) 6 (by decide) (by decide) F ok rest
        have e1 : cl (k + (n + 1) + 2) fe__law_draw [0, 1] [.obj 0, .int 6] (F.o :: rest) = some (.int d, F1.o :: rest) := e
        by_cases hd0 : 0 < d
        · simp only [wt] at hw
          have hn2 : (a :: r).length < 1073741824 := by omega
          obtain ⟨F2, i, e, i0, i1, ok2⟩ := s_draw (k + n + 2) ((a :: r).length : Nat) (by simp only [List.length_cons]; omega) (by omega) F1 ok1 rest
          have e2 : cl (k + (n + 1) + 2) fe__law_draw [0, 1] [.obj 0, .int ((a :: r).length : Nat)] (F1.o :: rest) = some (.int i, F2.o :: rest) := e
          obtain ⟨v, hv, ha⟩ := at_nat (xs := a :: r) i0 i1
          have gxs : gds B (a :: r) = true := hx
          have hvm : v ∈ a :: r := List.mem_of_getElem? hv
          obtain ⟨w1, w2⟩ := wt_split hv
          simp only [dp] at hd
          obtain ⟨y, F3, e, ok3, sy⟩ := ih k v F2 rest ok2 (gds_mem gxs hvm) (by omega) (by have := dp_mem hvm; omega) (by omega)
          have e3 : cl (k + (n + 1) + 2) fe__law_bent [0, 1] [.obj 0, v] (F2.o :: rest) = some (y, F3.o :: rest) := e
          have ht : i ≤ ((a :: r).length : Nat) := by omega
          have hdp : cutD (a :: r) none (some i) = (a :: r).take i.toNat := cut_to i0 ht
          have hdf : cutD (a :: r) (some (i + 1)) none = (a :: r).drop (i.toNat + 1) := by
            rw [cut_from (by omega) (by omega)]
            congr 1
            omega
          have t1 : ((a :: r).take i.toNat).length + [y].length ≤ 16777216 := by
            simp only [List.length_take, List.length_cons, List.length_nil] at hl ⊢
            omega
          have t2 : ((a :: r).take i.toNat ++ [y]).length + ((a :: r).drop (i.toNat + 1)).length ≤ 16777216 := by
            simp only [List.length_append, List.length_take, List.length_drop, List.length_cons, List.length_nil] at hl ⊢
            omega
          refine ⟨.tup ((a :: r).take i.toNat ++ [y] ++ (a :: r).drop (i.toNat + 1)), F3, ?_, ok3, ?_, ?_, ?_⟩
          · simp only [bent_head]
            have ty1 : [y].length ≤ 16777216 := by simp
            have ixv : ixD (.tup (a :: r)) (.int i) (F2.o :: rest) = .ok v (F2.o :: rest) := ix_tup _ ha
            have a1 := add_tup (F3.o :: rest) t1
            have a2 := add_tup (F3.o :: rest) t2
            simp only [List.append_assoc, List.cons_append, List.nil_append] at a1 a2 ⊢
            simp only [fseq_, fifS_, fret_, fasg_, fdrop_, fskip_, for__, fand_, fnot_, ftru_, fif_, fbool_, fchain_, fandV_, forV_, fnotV_, fneg_, fcallO_, fapp_, fcons_, fnil_, fcon_, fbin_, ftup_, flst_, fmatch_, fvar0, fvar1, fvar2, fvar3, fvar4, fvar5, fvar6, fvar7, fvar8, fvar9, fvar10, fvar11, fvar12, fvar13, fvar14, bind_ok, bind_stuck, toS_ok, toS_stuck, ofO_some, optS_some, gname_, truD_bl, Bool.not_true, Bool.not_false, Bool.false_eq_true, if_true, if_false, List.cons_append, List.nil_append, List.append_nil, List.set_cons_zero, List.set_cons_succ, endD_rt, endD_nx, ge_int, gt_int, le_int, lt_int, eq_int, add_int, sub_int, int_int, len_tup, isi_non_int, isi_non_bool, isi_non_str, isi_non_tuple, isi_bl_int, isi_bl_bool, isi_bl_str, isi_bl_tuple, isi_int_int, isi_int_bool, isi_int_str, isi_int_tuple, isi_str_int, isi_str_bool, isi_str_str, isi_str_tuple, isi_tup_int, isi_tup_bool, isi_tup_str, isi_tup_tuple, isi_lst_int, isi_lst_bool, isi_lst_str, isi_lst_tuple, List.length_nil, Nat.zero_le, nn, List.isEmpty_cons, e1, decide_eq_true hd0, e2, fslice_, fpart_, fpartN_, sl_tup, hdp, ixv, e3, ty1, a1, hdf, a2]
          · simp only [gd]
            exact gds_append (gds_append (gds_sub (List.take_sublist _ _) (gds_mono (Nat.le_succ B) gxs)) (by simp only [gds, sy.g, Bool.and_self])) (gds_sub (List.drop_sublist _ _) (gds_mono (Nat.le_succ B) gxs))
          · have := sy.w
            show 5 + wts ((a :: r).take i.toNat ++ [y] ++ (a :: r).drop (i.toNat + 1)) ≤ 3 * (5 + wts (a :: r)) + 700
            rw [wts_append, wts_append, w1]
            show 5 + (wts ((a :: r).take i.toNat) + (wt y + 2 + 0) + wts ((a :: r).drop (i.toNat + 1))) ≤ _
            omega
          · have := sy.d
            show dps ((a :: r).take i.toNat ++ [y] ++ (a :: r).drop (i.toNat + 1)) + 1 ≤ dps (a :: r) + 1 + 1
            rw [dps_append, dps_append, w2]
            show max (max (dps ((a :: r).take i.toNat)) (max (dp y) 0)) (dps ((a :: r).drop (i.toNat + 1))) + 1 ≤ _
            omega
        · obtain ⟨y, F', e, h1, h2⟩ := s_tail B hB hB2 (k + n + 1) (.tup (a :: r)) F1 ok1 rest hx hw (by omega)
          refine ⟨y, F', ?_, h1, h2⟩
          have e' : endD (bent_tail (k + (n + 1) + 2) [some (.obj 0), some (.tup (a :: r)), none, none, none] (F1.o :: rest)) = some (y, F'.o :: rest) := e
          rw [← e']
          simp only [bent_head]
          simp only [fseq_, fifS_, fret_, fasg_, fdrop_, fskip_, for__, fand_, fnot_, ftru_, fif_, fbool_, fchain_, fandV_, forV_, fnotV_, fneg_, fcallO_, fapp_, fcons_, fnil_, fcon_, fbin_, ftup_, flst_, fmatch_, fvar0, fvar1, fvar2, fvar3, fvar4, fvar5, fvar6, fvar7, fvar8, fvar9, fvar10, fvar11, fvar12, fvar13, fvar14, bind_ok, bind_stuck, toS_ok, toS_stuck, ofO_some, optS_some, gname_, truD_bl, Bool.not_true, Bool.not_false, Bool.false_eq_true, if_true, if_false, List.cons_append, List.nil_append, List.append_nil, List.set_cons_zero, List.set_cons_succ, endD_rt, endD_nx, ge_int, gt_int, le_int, lt_int, eq_int, add_int, sub_int, int_int, len_tup, isi_non_int, isi_non_bool, isi_non_str, isi_non_tuple, isi_bl_int, isi_bl_bool, isi_bl_str, isi_bl_tuple, isi_int_int, isi_int_bool, isi_int_str, isi_int_tuple, isi_str_int, isi_str_bool, isi_str_str, isi_str_tuple, isi_tup_int, isi_tup_bool, isi_tup_str, isi_tup_tuple, isi_lst_int, isi_lst_bool, isi_lst_str, isi_lst_tuple, List.length_nil, Nat.zero_le, nn, List.isEmpty_cons, e1, decide_eq_false hd0]
    | _ =>
      have := bent_non B hB hB2 (k + (n + 1)) _ F rest ok hx hw (by omega) (fun xs e => by cases e)
      exact this
end DL.P
end
section
namespace DL.P
open PySem L2 PyProof.Rows
theorem fdrop_app {f : FF D} {env : Env'} {st : Store} : fdrop f env st = (f env st).toS env fun _ st1 => .nx env st1 := rfl
/-- a note: a word and a number -/
def isNote : D → Bool
  | .tup [.str w, .int i] => (w == "bad" || w == "clean") && decide (0 ≤ i) && decide (i < 10)
  | _ => false
theorem note_sz {x : D} (h : isNote x = true) : Sb 10 x 200 1 ∧ tupKeys x = some [.inr (match x with | .tup [.str w, .int i] => w | _ => ""), .inl (match x with | .tup [.str w, .int i] => i | _ => 0)] := by
  unfold isNote at h
  split at h
  · rename_i w i
    simp only [Bool.and_eq_true, Bool.or_eq_true, beq_iff_eq, decide_eq_true_eq] at h
    obtain ⟨⟨h1, h2⟩, h3⟩ := h
    refine ⟨?_, rfl⟩
    have hw : PyData.strOk w = true ∧ w.length ≤ 5 := by
      rcases h1 with rfl | rfl <;> decide +kernel
    refine ⟨?_, ?_, ?_⟩
    · simp only [gd, gds, hw.1, Bool.and_true, Bool.true_and, decide_eq_true_eq]
      omega
    · simp only [wt, wts]; omega
    · simp only [dp, dps]; omega
  · cases h
theorem notes_sortable {xs : List D} (h : ∀ x ∈ xs, isNote x = true) : sortable xs = true := by
  have e : ∀ x ∈ xs, (tupKeys x).isSome = true ∧ (tk x).map kindK = [false, true] := fun x hx => by
    obtain ⟨-, e⟩ := note_sz (h x hx)
    refine ⟨by rw [e]; rfl, ?_⟩
    unfold tk
    rw [e]
    rfl
  unfold sortable
  cases xs with
  | nil => rfl
  | cons x r =>
    simp only [Bool.and_eq_true, List.all_eq_true, Bool.not_eq_true', beq_iff_eq]
    obtain ⟨e1, e2⟩ := e x List.mem_cons_self
    refine ⟨⟨e1, ?_⟩, fun y hy => ⟨(e y (List.mem_cons_of_mem _ hy)).1, by rw [(e y (List.mem_cons_of_mem _ hy)).2, e2]⟩⟩
    cases ht : tk x with
    | nil => rw [ht] at e2; cases e2
    | cons _ _ => rfl
theorem notes_goods {xs : List D} (h : ∀ x ∈ xs, isNote x = true) : goods xs = true ∧ dps xs ≤ 1 := by
  refine ⟨goods_all fun x hx => gd_good (by decide +kernel) (note_sz (h x hx)).1.g, ?_⟩
  induction xs with
  | nil => simp [dps]
  | cons x r ih =>
    have := ih fun y hy => h y (List.mem_cons_of_mem _ hy)
    have := (note_sz (h x List.mem_cons_self)).1.d
    simp only [dps]
    omega
/-- numbers below 10 -/
def isDig : D → Bool
  | .int i => decide (0 ≤ i) && decide (i < 10)
  | _ => false
theorem digs_goods {xs : List D} (h : ∀ x ∈ xs, isDig x = true) : goods xs = true ∧ dps xs ≤ 0 := by
  induction xs with
  | nil => exact ⟨rfl, Nat.le_refl _⟩
  | cons x r ih =>
    obtain ⟨h1, h2⟩ := ih fun y hy => h y (List.mem_cons_of_mem _ hy)
    have hx := h x List.mem_cons_self
    unfold isDig at hx
    split at hx
    · rename_i i
      simp only [Bool.and_eq_true, decide_eq_true_eq] at hx
      refine ⟨?_, by simp only [dps, dp]; omega⟩
      simp only [goods, good, h1, Bool.and_true, decide_eq_true_eq]
      have : (10 : Nat) ≤ 10 ^ 62 := by decide +kernel
      omega
    · cases hx
theorem sorted_obj {st : Store} {n : Nat} {xs : List D} (h : st[n]? = some (.lst xs)) (hs : sortable xs = true) : sortedD [.obj n] st = some (.lst (isort (fun x y => lexK (tk x) (tk y)) xs), st) := by
  unfold sortedD
  simp only [o_seq h, if_pos hs]
theorem tuple_lst (xs : List D) (st : Store) : tupleD [.lst xs] st = some (.tup xs, st) := rfl
/-- the body of the notes' loop -/
def notes_body (k : Nat) : FS :=   (fseq (fifS (fbool (fbin (cmpD .NotEq) (fvar 3) (flst false fnil)))
   (fseq (fdrop (fmeth "list" appendD (fvar 4) (fcons (ftup (fcons (fbin ixD (flst false (fcons (fcon (.str "bad")) (fcons (fcon (.str "clean")) fnil))) (fcallO (cl k fe__law_draw [0, 1]) (fapp (fcons (fvar 0) (fcons (fcon (.int 2)) fnil)) fnil))) (fcons (fmeth "list" popAtD (fvar 3) (fcons (fcallO (cl k fe__law_draw [0, 1]) (fapp (fcons (fvar 0) (fcons (fcallO lenD (fcons (fvar 3) fnil)) fnil)) fnil)) fnil)) fnil))) fnil)))
   fskip)
   fskip)
  fskip)
structure NInv (po fo : List D) (m : Nat) : Prop where
  p : ∀ x ∈ po, isDig x = true
  f : ∀ x ∈ fo, isNote x = true
  pl : po.length ≤ 9
  fl : fo.length ≤ m
theorem s_notes_body (k : Nat) (sheet : D) (i : Option D) (po fo : List D) (m : Nat) (hm : m ≤ 100) (F : Feed) (ok : F.Ok) (R : Store) (I : NInv po fo m) :
    ∃ (F' : Feed) (po' fo' : List D), notes_body (k + 1) [some (.obj 0), some sheet, i, some (.obj (R.length + 1)), some (.obj (R.length + 2))] (F.o :: (R ++ [.lst po, .lst fo])) =
      .nx [some (.obj 0), some sheet, i, some (.obj (R.length + 1)), some (.obj (R.length + 2))] (F'.o :: (R ++ [.lst po', .lst fo'])) ∧ F'.Ok ∧ NInv po' fo' (m + 1) := by
  obtain ⟨gp, dp0⟩ := digs_goods I.p
  have e0 := o_ne (st := F.o :: (R ++ [.lst po, .lst fo])) g1 gp (by omega)
  simp only [notes_body]
  cases po with
  | nil =>
    refine ⟨F, [], fo, ?_, ok, I.p, I.f, I.pl, by have := I.fl; omega⟩
    simp only [fseq_, fifS_, fret_, fasg_, fdrop_, fskip_, for__, fand_, fnot_, ftru_, fif_, fbool_, fchain_, fandV_, forV_, fnotV_, fneg_, fcallO_, fapp_, fcons_, fnil_, fcon_, fbin_, ftup_, flst_, fmatch_, fvar0, fvar1, fvar2, fvar3, fvar4, fvar5, fvar6, fvar7, fvar8, fvar9, fvar10, fvar11, fvar12, fvar13, fvar14, bind_ok, bind_stuck, toS_ok, toS_stuck, ofO_some, optS_some, gname_, truD_bl, Bool.not_true, Bool.not_false, Bool.false_eq_true, if_true, if_false, List.cons_append, List.nil_append, List.append_nil, List.set_cons_zero, List.set_cons_succ, endD_rt, endD_nx, ge_int, gt_int, le_int, lt_int, eq_int, add_int, sub_int, int_int, len_tup, isi_non_int, isi_non_bool, isi_non_str, isi_non_tuple, isi_bl_int, isi_bl_bool, isi_bl_str, isi_bl_tuple, isi_int_int, isi_int_bool, isi_int_str, isi_int_tuple, isi_str_int, isi_str_bool, isi_str_str, isi_str_tuple, isi_tup_int, isi_tup_bool, isi_tup_str, isi_tup_tuple, isi_lst_int, isi_lst_bool, isi_lst_str, isi_lst_tuple, List.length_nil, Nat.zero_le, e0, List.isEmpty_nil]
  | cons q r =>
    obtain ⟨F1, d, e, h0, h1, ok1⟩ := s_draw k 2 (by decide) (by decide) F ok (R ++ [.lst (q :: r), .lst fo])
    have e1 : cl (k + 1) fe__law_draw [0, 1] [.obj 0, .int 2] (F.o :: (R ++ [.lst (q :: r), .lst fo])) = some (.int d, F1.o :: (R ++ [.lst (q :: r), .lst fo])) := e
    have hl := I.pl
    obtain ⟨F2, j, e, j0, j1, ok2⟩ := s_draw k ((q :: r).length : Nat) (by simp only [List.length_cons]; omega) (by omega) F1 ok1 (R ++ [.lst (q :: r), .lst fo])
    have e2 : cl (k + 1) fe__law_draw [0, 1] [.obj 0, .int ((q :: r).length : Nat)] (F1.o :: (R ++ [.lst (q :: r), .lst fo])) = some (.int j, F2.o :: (R ++ [.lst (q :: r), .lst fo])) := e
    obtain ⟨v, hv, ha⟩ := at_nat (xs := q :: r) j0 j1
    obtain ⟨w, hw, hwi⟩ := atI_mem (xs := [D.str "bad", D.str "clean"]) (i := d) h0 (by show d < ((2 : Nat) : Int); omega)
    have q0 : ixD (.lst [.str "bad", .str "clean"]) (.int d) (F1.o :: (R ++ [.lst (q :: r), .lst fo])) = .ok w _ := ix_lst _ hwi
    have t1 := o_ty (st := F1.o :: (R ++ [.lst (q :: r), .lst fo])) (n := R.length + 1) g1
    have t2 := o_ty (st := F.o :: (R ++ [.lst (q :: r), .lst fo])) (n := R.length + 2) g2
    have l1 := o_len (st := F1.o :: (R ++ [.lst (q :: r), .lst fo])) (n := R.length + 1) g1
    have p1 := o_pop (st := F2.o :: (R ++ [.lst (q :: r), .lst fo])) (n := R.length + 1) g1 j0 j1 (by omega) hv
    rw [st1] at p1
    have fl := I.fl
    have a1 := o_app (st := F2.o :: (R ++ [.lst ((q :: r).eraseIdx j.toNat), .lst fo])) (n := R.length + 2) g2 (by omega) (.tup [w, v])
    rw [st2] at a1
    refine ⟨F2, (q :: r).eraseIdx j.toNat, fo ++ [.tup [w, v]], ?_, ok2, ⟨fun x hx => I.p x (List.mem_of_mem_eraseIdx hx), fun x hx => ?_, ?_, ?_⟩⟩
    · simp only [fseq_, fifS_, fret_, fasg_, fdrop_, fskip_, for__, fand_, fnot_, ftru_, fif_, fbool_, fchain_, fandV_, forV_, fnotV_, fneg_, fcallO_, fapp_, fcons_, fnil_, fcon_, fbin_, ftup_, flst_, fmatch_, fvar0, fvar1, fvar2, fvar3, fvar4, fvar5, fvar6, fvar7, fvar8, fvar9, fvar10, fvar11, fvar12, fvar13, fvar14, bind_ok, bind_stuck, toS_ok, toS_stuck, ofO_some, optS_some, gname_, truD_bl, Bool.not_true, Bool.not_false, Bool.false_eq_true, if_true, if_false, List.cons_append, List.nil_append, List.append_nil, List.set_cons_zero, List.set_cons_succ, endD_rt, endD_nx, ge_int, gt_int, le_int, lt_int, eq_int, add_int, sub_int, int_int, len_tup, isi_non_int, isi_non_bool, isi_non_str, isi_non_tuple, isi_bl_int, isi_bl_bool, isi_bl_str, isi_bl_tuple, isi_int_int, isi_int_bool, isi_int_str, isi_int_tuple, isi_str_int, isi_str_bool, isi_str_str, isi_str_tuple, isi_tup_int, isi_tup_bool, isi_tup_str, isi_tup_tuple, isi_lst_int, isi_lst_bool, isi_lst_str, isi_lst_tuple, List.length_nil, Nat.zero_le, e0, List.isEmpty_cons, fmeth_, t2, show ([D.str "bad", D.str "clean"].length ≤ 16777216) by decide, e1, q0, t1, l1, e2, p1, show ([w, v].length ≤ 16777216) by simp, a1]
    · rcases List.mem_append.mp hx with m | m
      · exact I.f x m
      · simp only [List.mem_singleton] at m
        subst m
        have hd := I.p v (List.mem_of_getElem? hv)
        unfold isDig at hd
        split at hd
        · rename_i z
          simp only [List.mem_cons, List.not_mem_nil, or_false] at hw
          simp only [Bool.and_eq_true, decide_eq_true_eq] at hd
          rcases hw with rfl | rfl
          · simp only [isNote, hd.1, hd.2]; decide +kernel
          · simp only [isNote, hd.1, hd.2]; decide +kernel
        · cases hd
    · rw [List.length_eraseIdx]; split <;> omega
    · simp only [List.length_append, List.length_cons, List.length_nil]; omega
theorem rgD_dig {n : Nat} (h : n ≤ 9) : ∀ x ∈ rgD 0 (n : Int), isDig x = true := by
  intro x hx
  unfold rgD at hx
  obtain ⟨i, hi, rfl⟩ := List.mem_map.mp hx
  have := List.mem_range.mp hi
  simp only [isDig, Bool.and_eq_true, decide_eq_true_eq]
  omega
theorem rgD_len (n : Nat) : (rgD 0 (n : Int)).length = n := by
  unfold rgD
  simp
theorem okRg_small {n : Nat} (h : n ≤ 1000) : okRg 0 (n : Int) = true := by
  simp [okRg]
  omega
theorem okR_small {d : Int} (h0 : 0 ≤ d) (h : d ≤ 1000) : okR d = true := by
  simp [okR]
  omega
theorem flistRg1_ {m : Bool} {f : FF D} {env : Env'} {st st1 : Store} {n : Nat} (e : f env st = .ok (.int (n : Int)) st1) (h : n ≤ 1000) : flistRg1 m f env st = newLD m (rgD 0 (n : Int)) st1 := by
  unfold flistRg1
  rw [e, bind_ok]
  dsimp only
  rw [if_pos (okRg_small h)]
theorem frange1_ {f : FF D} {env : Env'} {st st1 : Store} {d : Int} (e : f env st = .ok (.int d) st1) (h0 : 0 ≤ d) (h : d ≤ 1000) : frange1 f env st = .ok ⟨(List.range d.toNat).map fun (i : Nat) => .int (0 + i), fun _ => true⟩ st1 := by
  unfold frange1
  rw [e, bind_ok]
  dsimp only
  rw [if_pos (okR_small h0 h)]
theorem newLD_t (xs : List D) (st : Store) : newLD true xs st = .ok (.obj st.length) (st ++ [.lst xs]) := rfl
/-- a sheet -/
structure Sheet (s : D) (m : Nat) : Prop where
  ex : ∃ spots rows, s = .tup [.tup spots, .tup rows] ∧ (∀ x ∈ spots, Sb 10 x 200 1) ∧ (∀ x ∈ rows, Sb 10 x 300 1) ∧ spots.length ≤ 4 ∧ rows.length ≤ m
theorem notes_glue (k : Nat) (F F1 : Feed) (R : Store) (sheet : D) (rg0 l : List D) (i : Option D) (st' : Store) (res : List D)
    (rg : flistRg1 true (fcallO lenD (fcons (fbin ixD (fvar 1) (fcon (.int 1))) fnil)) [some (.obj 0), some sheet, none, none, none] (F.o :: R) = newLD true rg0 (F.o :: R))
    (fr : frange1 (fcallO (cl k fe__law_draw [0, 1]) (fapp (fcons (fvar 0) (fcons (fcon (.int 4)) fnil)) fnil)) [some (.obj 0), some sheet, none, some (.obj (R.length + 1)), some (.obj (R.length + 2))] (F.o :: (R ++ [.lst rg0, .lst []])) = .ok ⟨l, fun _ => true⟩ (F1.o :: (R ++ [.lst rg0, .lst []])))
    (el : forL (fun _ => true) (gname 2) (notes_body k) l [some (.obj 0), some sheet, none, some (.obj (R.length + 1)), some (.obj (R.length + 2))] (F1.o :: (R ++ [.lst rg0, .lst []])) = .nx [some (.obj 0), some sheet, i, some (.obj (R.length + 1)), some (.obj (R.length + 2))] st')
    (so : sortedD [.obj (R.length + 2)] st' = some (.lst res, st')) :
    endD (m__law_notes k [some (.obj 0), some sheet, none, none, none] (F.o :: R)) = some (.tup res, st') := by
  rw [newLD_t] at rg
  have ln : (R ++ [DO.lst rg0]).length + 1 = R.length + 2 := by simp
  simp only [notes_body] at el
  simp only [m__law_notes]
  simp only [fseq_, fifS_, fret_, fasg_, fdrop_, fskip_, for__, fand_, fnot_, ftru_, fif_, fbool_, fchain_, fandV_, forV_, fnotV_, fneg_, fcallO_, fapp_, fcons_, fnil_, fcon_, fbin_, ftup_, flst_, fmatch_, fvar0, fvar1, fvar2, fvar3, fvar4, fvar5, fvar6, fvar7, fvar8, fvar9, fvar10, fvar11, fvar12, fvar13, fvar14, bind_ok, bind_stuck, toS_ok, toS_stuck, ofO_some, optS_some, gname_, truD_bl, Bool.not_true, Bool.not_false, Bool.false_eq_true, if_true, if_false, List.cons_append, List.nil_append, List.append_nil, List.set_cons_zero, List.set_cons_succ, endD_rt, endD_nx, ge_int, gt_int, le_int, lt_int, eq_int, add_int, sub_int, int_int, len_tup, isi_non_int, isi_non_bool, isi_non_str, isi_non_tuple, isi_bl_int, isi_bl_bool, isi_bl_str, isi_bl_tuple, isi_int_int, isi_int_bool, isi_int_str, isi_int_tuple, isi_str_int, isi_str_bool, isi_str_str, isi_str_tuple, isi_tup_int, isi_tup_bool, isi_tup_str, isi_tup_tuple, isi_lst_int, isi_lst_bool, isi_lst_str, isi_lst_tuple, rg, ln, gtup_, gcons_, gnil_, List.length_nil, Nat.zero_le, n0, List.append_assoc, List.length_cons, show (0 + 1 + 1 : Nat) ≤ 16777216 by decide, ffor_, fr, el, so, tuple_lst]
theorem s_notes (k : Nat) (sheet : D) (hs : Sheet sheet 9) (F : Feed) (ok : F.Ok) (R : Store) :
    ∃ (F' : Feed) (fs : List D) (more : Store), run (k + 2) fe__law_notes [.obj 0, sheet] (F.o :: R) = some (.tup fs, F'.o :: (R ++ more)) ∧ F'.Ok ∧ (∀ x ∈ fs, Sb 10 x 200 1) ∧ fs.length ≤ 3 := by
  obtain ⟨spots, rows, rfl, h1, h2, h3, h4⟩ := hs.ex
  rw [run__law_notes]
  have i1 : ixD (.tup [.tup spots, .tup rows]) (.int 1) (F.o :: R) = .ok (.tup rows) (F.o :: R) := ixS _ _ 0 _ _ rfl
  obtain ⟨F1, d, e, d0, d1, ok1⟩ := s_draw k 4 (by decide) (by decide) F ok (R ++ [.lst (rgD 0 (rows.length : Int)), .lst []])
  have e1 : cl (k + 1) fe__law_draw [0, 1] [.obj 0, .int 4] (F.o :: (R ++ [.lst (rgD 0 (rows.length : Int)), .lst []])) = some (.int d, F1.o :: (R ++ [.lst (rgD 0 (rows.length : Int)), .lst []])) := e
  have loop := forL_inv (chk := fun _ => true) (g := gname 2) (body := notes_body (k + 1))
    (fun m env st => m ≤ 3 → ∃ (i : Option D) (F' : Feed) (po fo : List D), env = [some (.obj 0), some (.tup [.tup spots, .tup rows]), i, some (.obj (R.length + 1)), some (.obj (R.length + 2))] ∧ st = F'.o :: (R ++ [.lst po, .lst fo]) ∧ F'.Ok ∧ NInv po fo m)
    ((List.range d.toNat).map fun (i : Nat) => D.int (0 + i)) 0 [some (.obj 0), some (.tup [.tup spots, .tup rows]), none, some (.obj (R.length + 1)), some (.obj (R.length + 2))] (F1.o :: (R ++ [.lst (rgD 0 (rows.length : Int)), .lst []]))
    (fun j x env st hj hp => by
      by_cases hj3 : 0 + j ≤ 3
      · obtain ⟨i, F2, po, fo, rfl, rfl, ok2, I⟩ := hp hj3
        refine ⟨_, _, rfl, ?_⟩
        obtain ⟨F3, po', fo', e, ok3, I3⟩ := s_notes_body k (.tup [.tup spots, .tup rows]) (some x) po fo (0 + j) (by omega) F2 ok2 R I
        exact ⟨_, _, e, fun _ => ⟨some x, F3, po', fo', rfl, rfl, ok3, I3⟩⟩
      · exfalso
        have := (List.getElem?_eq_some_iff.mp hj).1
        simp at this
        omega)
    (fun _ _ _ _ => rfl)
    (fun _ => ⟨none, F1, _, _, rfl, rfl, ok1, ⟨rgD_dig h4, (fun x hx => by cases hx), by rw [rgD_len]; exact h4, Nat.le_refl _⟩⟩)
  obtain ⟨env', st', el, hp⟩ := loop
  have hlen : 0 + ((List.range d.toNat).map fun (i : Nat) => D.int (0 + i)).length ≤ 3 := by simp; omega
  obtain ⟨i, F2, po, fo, rfl, rfl, ok2, I⟩ := hp hlen
  have srt := notes_sortable I.f
  have so := sorted_obj (st := F2.o :: (R ++ [.lst po, .lst fo])) (n := R.length + 2) g2 srt
  refine ⟨F2, isort (fun x y => lexK (tk x) (tk y)) fo, [.lst po, .lst fo], ?_, ok2, fun x hx => (note_sz (I.f x ((isort_mem (swo_key tk)).mp hx))).1, ?_⟩
  · have rg := flistRg1_ (m := true) (f := fcallO lenD (fcons (fbin ixD (fvar 1) (fcon (.int 1))) fnil)) (env := [some (.obj 0), some (.tup [.tup spots, .tup rows]), none, none, none]) (st := F.o :: R) (st1 := F.o :: R) (n := rows.length) (by simp only [fseq_, fifS_, fret_, fasg_, fdrop_, fskip_, for__, fand_, fnot_, ftru_, fif_, fbool_, fchain_, fandV_, forV_, fnotV_, fneg_, fcallO_, fapp_, fcons_, fnil_, fcon_, fbin_, ftup_, flst_, fmatch_, fvar0, fvar1, fvar2, fvar3, fvar4, fvar5, fvar6, fvar7, fvar8, fvar9, fvar10, fvar11, fvar12, fvar13, fvar14, bind_ok, bind_stuck, toS_ok, toS_stuck, ofO_some, optS_some, gname_, truD_bl, Bool.not_true, Bool.not_false, Bool.false_eq_true, if_true, if_false, List.cons_append, List.nil_append, List.append_nil, List.set_cons_zero, List.set_cons_succ, endD_rt, endD_nx, ge_int, gt_int, le_int, lt_int, eq_int, add_int, sub_int, int_int, len_tup, isi_non_int, isi_non_bool, isi_non_str, isi_non_tuple, isi_bl_int, isi_bl_bool, isi_bl_str, isi_bl_tuple, isi_int_int, isi_int_bool, isi_int_str, isi_int_tuple, isi_str_int, isi_str_bool, isi_str_str, isi_str_tuple, isi_tup_int, isi_tup_bool, isi_tup_str, isi_tup_tuple, isi_lst_int, isi_lst_bool, isi_lst_str, isi_lst_tuple, i1]) (by omega)
    have fr := frange1_ (f := fcallO (cl (k + 1) fe__law_draw [0, 1]) (fapp (fcons (fvar 0) (fcons (fcon (.int 4)) fnil)) fnil)) (env := [some (.obj 0), some (.tup [.tup spots, .tup rows]), none, some (.obj (R.length + 1)), some (.obj (R.length + 2))]) (st := F.o :: (R ++ [.lst (rgD 0 (rows.length : Int)), .lst []])) (st1 := F1.o :: (R ++ [.lst (rgD 0 (rows.length : Int)), .lst []])) (by simp only [fseq_, fifS_, fret_, fasg_, fdrop_, fskip_, for__, fand_, fnot_, ftru_, fif_, fbool_, fchain_, fandV_, forV_, fnotV_, fneg_, fcallO_, fapp_, fcons_, fnil_, fcon_, fbin_, ftup_, flst_, fmatch_, fvar0, fvar1, fvar2, fvar3, fvar4, fvar5, fvar6, fvar7, fvar8, fvar9, fvar10, fvar11, fvar12, fvar13, fvar14, bind_ok, bind_stuck, toS_ok, toS_stuck, ofO_some, optS_some, gname_, truD_bl, Bool.not_true, Bool.not_false, Bool.false_eq_true, if_true, if_false, List.cons_append, List.nil_append, List.append_nil, List.set_cons_zero, List.set_cons_succ, endD_rt, endD_nx, ge_int, gt_int, le_int, lt_int, eq_int, add_int, sub_int, int_int, len_tup, isi_non_int, isi_non_bool, isi_non_str, isi_non_tuple, isi_bl_int, isi_bl_bool, isi_bl_str, isi_bl_tuple, isi_int_int, isi_int_bool, isi_int_str, isi_int_tuple, isi_str_int, isi_str_bool, isi_str_str, isi_str_tuple, isi_tup_int, isi_tup_bool, isi_tup_str, isi_tup_tuple, isi_lst_int, isi_lst_bool, isi_lst_str, isi_lst_tuple, e1]) d0 (by omega)
    exact notes_glue (k + 1) _ _ _ _ _ _ _ _ _ rg fr el so
  · rw [isort_len (swo_key tk)]
    have := I.fl
    omega
end DL.P
end
section
namespace DL.P
open PySem L2 PyProof.Rows
def bk1 (k : Nat) : FS := (fasg (fcallO (cl k fe__law_draw [0, 1]) (fapp (fcons (fvar 0) (fcons (fcon (.int 9)) fnil)) fnil)) (gname 9))
def bk2 (k : Nat) : FS := (fasg (fif (fbool (fchain (cmpD .Lt) (cmpD .Lt) (fcon (.int 2)) (fvar 9) (fcon (.int 8)))) (flc false (fitems (fvar 4)) (.one 16) (fbool (fbin (cmpD .Gt) (fbin ixD (fvar 6) (fvar 16)) (fcon (.int 0)))) (fvar 16) [16]) (flst false fnil)) (gname 10))
def bk3 (k : Nat) : FS := (fasg (fif (fbool (fbin (cmpD .NotEq) (fvar 10) (flst false fnil))) (fvar 10) (fvar 4)) (gname 10))
def bk4 (k : Nat) : FS := (fasg (ftup (fcons (fbin ixD (fvar 10) (fcallO (cl k fe__law_draw [0, 1]) (fapp (fcons (fvar 0) (fcons (fcallO lenD (fcons (fvar 10) fnil)) fnil)) fnil))) (fcons (fbin (binD2 .Add) (fcon (.int 1)) (fcallO (cl k fe__law_draw [0, 1]) (fapp (fcons (fvar 0) (fcons (fcon (.int 5)) fnil)) fnil))) fnil))) (gtup 2 (gcons (gname 14) (gcons (gname 12) gnil))))
def bk5 (k : Nat) : FS := (fasg (fbin ixD (fvar 4) (fbin (binD2 .Mod) (fcallO intD (fcons (fbin (binD2 .Add) (fbin (binD2 .Add) (fmeth "list" indexD (fvar 4) (fcons (fvar 14) fnil)) (fcon (.int 1))) (fcallO (cl k fe__law_draw [0, 1]) (fapp (fcons (fvar 0) (fcons (fcallO (min2D true) (fcons (fcon (.int 1)) (fcons (fbin (binD2 .Sub) (fcallO lenD (fcons (fvar 4) fnil)) (fcon (.int 1))) fnil))) fnil)) fnil))) fnil)) (fcallO lenD (fcons (fvar 4) fnil)))) (gname 11))
def bk6 (k : Nat) : FS := (fasg (fif (fbool (fbin (cmpD .Gt) (fvar 9) (fcon (.int 2)))) (fcallO (min2D false) (fcons (fvar 12) (fcons (fbin ixD (fvar 6) (fvar 14)) fnil))) (fvar 12)) (gname 12))
def bk7 (k : Nat) : FS := (fifS (fand (fbool (fbin (cmpD .Eq) (fvar 9) (fcon (.int 8)))) (fbool (fbin (cmpD .NotEq) (fvar 8) (flst false fnil))))
   (fseq (fasg (fmeth "list" popAtD (fvar 8) (fcons (fcallO (cl k fe__law_draw [0, 1]) (fapp (fcons (fvar 0) (fcons (fcallO lenD (fcons (fvar 8) fnil)) fnil)) fnil)) fnil)) (gtup 2 (gcons (gname 15) (gcons (gname 12) gnil))))
   (fseq (fdrop (fmeth "list" appendD (fvar 7) (fcons (ftup (fcons (fcon (.str "back")) (fcons (fvar 15) (fcons (fvar 14) fnil)))) fnil)))
   (fseq (fasg (fbin (binD2 .Add) (fbin ixD (fvar 6) (fvar 14)) (fvar 12)) (gsub (fvar 6) (fvar 14)))
   fskip)))
   (fseq (fifS (fand (fbool (fbin (cmpD .In) (fvar 9) (ftup (fcons (fcon (.int 3)) (fcons (fcon (.int 4)) (fcons (fcon (.int 5)) fnil)))))) (fand (fbool (fbin (cmpD .Gt) (fvar 12) (fcon (.int 0)))) (fbool (fbin (cmpD .NotEq) (fvar 11) (fvar 14)))))
    (fseq (fdrop (fmeth "list" appendD (fvar 7) (fcons (ftup (fcons (fcon (.str "move")) (fcons (fvar 14) (fcons (fvar 11) (fcons (fvar 12) fnil))))) fnil)))
    (fseq (fasg (ftup (fcons (fbin (binD2 .Sub) (fbin ixD (fvar 6) (fvar 14)) (fvar 12)) (fcons (fbin (binD2 .Add) (fbin ixD (fvar 6) (fvar 11)) (fvar 12)) fnil))) (gtup 2 (gcons (gsub (fvar 6) (fvar 14)) (gcons (gsub (fvar 6) (fvar 11)) gnil))))
    fskip))
    (fseq (fifS (fand (fbool (fbin (cmpD .In) (fvar 9) (ftup (fcons (fcon (.int 6)) (fcons (fcon (.int 7)) fnil))))) (fbool (fbin (cmpD .Gt) (fvar 12) (fcon (.int 0)))))
     (fseq (fdrop (fmeth "list" appendD (fvar 7) (fcons (ftup (fcons (fif (fand (for_ (fbool (fbin (cmpD .Eq) (fvar 9) (fcon (.int 6)))) (fbool (fbin (cmpD .Lt) (fvar 5) (fcon (.int 4))))) (fbool (fbin (cmpD .Lt) (fcallO lenD (fcons (fvar 8) fnil)) (fcon (.int 6))))) (fcon (.str "sell")) (fcon (.str "waste"))) (fcons (fvar 14) (fcons (fvar 12) fnil)))) fnil)))
     (fseq (fdrop (fmeth "list" extendD (fvar 8) (fcons (fif (fbool (fbin (cmpD .Eq) (fbin ixD (fbin ixD (fvar 7) (fneg (fcon (.int 1)))) (fcon (.int 0))) (fcon (.str "sell")))) (flst false (fcons (ftup (fcons (fvar 5) (fcons (fvar 12) fnil))) fnil)) (flst false fnil)) fnil)))
     (fseq (fasg (fbin (binD2 .Sub) (fbin ixD (fvar 6) (fvar 14)) (fvar 12)) (gsub (fvar 6) (fvar 14)))
     fskip)))
     (fseq (fasg (fcallO (min2D true) (fcons (fcon (.int 1)) (fcons (fvar 12) fnil))) (gname 12))
     (fseq (fdrop (fmeth "list" appendD (fvar 7) (fcons (ftup (fcons (fcon (.str "come")) (fcons (fvar 14) (fcons (fbin ixD (flst false (fcons (fcon (.str "ash")) (fcons (fcon (.str "b")) (fcons (fcon (.str "come")) (fcons (fcon (.str "zz")) fnil))))) (fcallO (cl k fe__law_draw [0, 1]) (fapp (fcons (fvar 0) (fcons (fcon (.int 4)) fnil)) fnil))) (fcons (fvar 12) fnil))))) fnil)))
     (fseq (fasg (fbin (binD2 .Add) (fbin ixD (fvar 6) (fvar 14)) (fvar 12)) (gsub (fvar 6) (fvar 14)))
     fskip))))
    fskip))
   fskip))
def bk_body (k : Nat) : FS := (fseq (bk1 k) (fseq (bk2 k) (fseq (bk3 k) (fseq (bk4 k) (fseq (bk5 k) (fseq (bk6 k) (fseq (bk7 k) fskip)))))))
def bh1 (k : Nat) : FS := (fasg (flst true (fcons (ftup (fcons (ftup (fcons (fcon (.str "line")) (fcons (fcon (.str "pipe")) fnil))) (fcons (ftup (fcons (fcon (.str "tank")) (fcons (fcon (.str "heap")) fnil))) fnil))) (fcons (ftup (fcons (ftup (fcons (fcon (.str "a")) (fcons (fcon (.str "pipe")) fnil))) (fcons (ftup (fcons (fcon (.str "few")) (fcons (fcon (.str "heap")) fnil))) (fcons (ftup (fcons (fcon (.str "move")) (fcons (fcon (.str "pipe")) fnil))) fnil)))) (fcons (ftup (fcons (ftup (fcons (fcon (.str "b")) (fcons (fcon (.str "heap")) fnil))) fnil)) fnil)))) (gname 2))
def bh2 (k : Nat) : FS := (fdrop (fmeth "list" extendD (fvar 2) (fcons (flst false (fcons (ftup (fcons (ftup (fcons (fcon (.str "p")) (fcons (fcon (.str "pipe")) fnil))) (fcons (ftup (fcons (fcon (.str "q")) (fcons (fcon (.str "pipe")) fnil))) fnil))) (fcons (ftup (fcons (ftup (fcons (fcon (.str "a")) (fcons (fcon (.str "heap")) fnil))) (fcons (ftup (fcons (fcon (.str "b")) (fcons (fcon (.str "pipe")) fnil))) (fcons (ftup (fcons (fcon (.str "c")) (fcons (fcon (.str "heap")) fnil))) (fcons (ftup (fcons (fcon (.str "d")) (fcons (fcon (.str "pipe")) fnil))) fnil))))) fnil))) fnil)))
def bh3 (k : Nat) : FS := (fasg (fbin ixD (fvar 2) (fcallO (cl k fe__law_draw [0, 1]) (fapp (fcons (fvar 0) (fcons (fcon (.int 5)) fnil)) fnil))) (gname 3))
def bh4 (k : Nat) : FS := (fasg (flc false (fitems (fvar 3)) (.one 13) ftrue (fbin ixD (fvar 13) (fcon (.int 0))) [13]) (gname 4))
def bh5 (k : Nat) : FS := (fasg (ftup (fcons (fcallO dictD (fcons (flc false (fitems (fvar 4)) (.one 16) ftrue (ftup (fcons (fvar 16) (fcons (fcon (.int 0)) fnil))) [16]) fnil)) (fcons (flst true fnil) (fcons (flst true fnil) fnil)))) (gtup 3 (gcons (gname 6) (gcons (gname 7) (gcons (gname 8) gnil)))))
def bk_ret : FS := (fret (ftup (fcons (fvar 3) (fcons (fcallO tupleD (fcons (fvar 7) fnil)) fnil))))
theorem book_parts (k : Nat) : m__law_book k = (fseq (bh1 k) (fseq (bh2 k) (fseq (bh3 k) (fseq (bh4 k) (fseq (bh5 k) (fseq (ffor (frange1 (fvar 1)) (gname 5) (bk_body k)) (fseq bk_ret fskip))))))) := rfl
theorem seq_nx {s1 s2 : FS} {env env1 : Env'} {st st1 : Store} (h : s1 env st = .nx env1 st1) : fseq s1 s2 env st = s2 env1 st1 := by
  rw [fseq_, h]
/-- texts and numbers that rows are made of -/
def isAtom : D → Bool
  | .str s => PyData.strOk s && decide (s.length ≤ 5)
  | .int i => decide (0 ≤ i) && decide (i < 10)
  | _ => false
theorem atoms_sz {l : List D} (h : ∀ a ∈ l, isAtom a = true) : gds 10 l = true ∧ wts l ≤ 72 * l.length ∧ dps l ≤ 0 := by
  induction l with
  | nil => exact ⟨rfl, Nat.le_refl _, Nat.le_refl _⟩
  | cons a r ih =>
    obtain ⟨h1, h2, h3⟩ := ih fun b hb => h b (List.mem_cons_of_mem _ hb)
    have ha := h a List.mem_cons_self
    unfold isAtom at ha
    split at ha
    · rename_i s
      simp only [Bool.and_eq_true, decide_eq_true_eq] at ha
      refine ⟨?_, ?_, ?_⟩
      · simp only [gds, gd, h1, ha.1, Bool.and_self]
      · simp only [wts, wt, List.length_cons]; omega
      · simp only [dps, dp]; omega
    · rename_i i
      simp only [Bool.and_eq_true, decide_eq_true_eq] at ha
      refine ⟨?_, ?_, ?_⟩
      · simp only [gds, gd, h1, Bool.and_true, decide_eq_true_eq]; omega
      · simp only [wts, wt, List.length_cons]; omega
      · simp only [dps, dp]; omega
    · cases ha
/-- a row -/
def IsRow (x : D) : Prop := ∃ (w : Str) (r : List D), x = .tup (.str w :: r) ∧ (∀ a ∈ (D.str w :: r), isAtom a = true) ∧ r.length ≤ 3
theorem IsRow.sz {x : D} (h : IsRow x) : Sb 10 x 300 1 := by
  obtain ⟨w, r, rfl, h1, h2⟩ := h
  obtain ⟨a1, a2, a3⟩ := atoms_sz h1
  refine ⟨a1, ?_, ?_⟩
  · show 5 + wts (D.str w :: r) ≤ 300
    simp only [List.length_cons] at a2
    omega
  · show dps (D.str w :: r) + 1 ≤ 1
    omega
/-- what was sold: the row, how many -/
def IsSold (x : D) : Prop := ∃ i n : Int, x = .tup [.int i, .int n] ∧ 0 ≤ i ∧ i < 10 ∧ 0 ≤ n ∧ n < 10
theorem sold_goods {l : List D} (h : ∀ x ∈ l, IsSold x) : goods l = true ∧ dps l ≤ 1 := by
  induction l with
  | nil => exact ⟨rfl, Nat.zero_le _⟩
  | cons a r ih =>
    obtain ⟨h1, h2⟩ := ih fun b hb => h b (List.mem_cons_of_mem _ hb)
    obtain ⟨i, n, rfl, i0, i1, n0, n1⟩ := h a List.mem_cons_self
    have hb : (10 : Nat) ≤ 10 ^ 62 := by decide +kernel
    refine ⟨?_, ?_⟩
    · simp only [goods, good, h1, Bool.and_true, Bool.and_eq_true, decide_eq_true_eq]
      omega
    · simp only [dps, dp]; omega
theorem getK_mapNe {k k' : Key} (d : D) (h : k' ≠ k) : ∀ kvs : List (Key × D), getK (kvs.map fun kv => if kv.1 = k then (kv.1, d) else kv) k' = getK kvs k'
  | [] => rfl
  | (a, v) :: r => by
    have ih := getK_mapNe d h r
    unfold getK at ih ⊢
    simp only [List.map_cons, List.find?_cons]
    by_cases ha : a = k
    · subst ha
      simp only [if_true]
      have e1 : decide (a = k') = false := decide_eq_false fun z => h z.symm
      simp only [e1]
      exact ih
    · rw [if_neg ha]
      by_cases hk : a = k'
      · simp [hk]
      · have e1 : decide (a = k') = false := decide_eq_false hk
        simp only [e1]
        exact ih
theorem getK_mapEq {k : Key} (d : D) : ∀ kvs : List (Key × D), (kvs.any fun kv => decide (kv.1 = k)) = true → getK (kvs.map fun kv => if kv.1 = k then (kv.1, d) else kv) k = some d
  | [], h => by simp at h
  | (a, v) :: r, h => by
    unfold getK
    simp only [List.map_cons, List.find?_cons]
    by_cases ha : a = k
    · subst ha
      simp
    · rw [if_neg ha]
      have e1 : decide (a = k) = false := decide_eq_false ha
      simp only [e1]
      have hr : (r.any fun kv => decide (kv.1 = k)) = true := by
        simp only [List.any_cons, e1, Bool.false_or] at h
        exact h
      exact getK_mapEq d r hr
theorem getK_put (kvs : List (Key × D)) (k k' : Key) (d : D) : getK (putKD kvs k d) k' = if k' = k then some d else getK kvs k' := by
  unfold putKD
  by_cases h : (kvs.any fun kv => decide (kv.1 = k)) = true
  · rw [if_pos h]
    by_cases hk : k' = k
    · subst hk
      rw [if_pos rfl, getK_mapEq d kvs h]
    · rw [if_neg hk, getK_mapNe d hk]
  · rw [if_neg h]
    unfold getK
    rw [List.find?_append]
    by_cases hk : k' = k
    · subst hk
      rw [if_pos rfl]
      have : kvs.find? (fun kv => decide (kv.1 = k')) = none := by
        rw [List.find?_eq_none]
        intro x hx hd
        exact h (List.any_eq_true.mpr ⟨x, hx, hd⟩)
      rw [this]
      simp
    · rw [if_neg hk]
      have e1 : decide (k = k') = false := decide_eq_false fun z => hk z.symm
      simp [e1]
theorem len_put (kvs : List (Key × D)) (k : Key) (d : D) : (putKD kvs k d).length ≤ kvs.length + 1 := by
  unfold putKD
  split <;> simp
/-- the state between two rows -/
structure BInv (ns : List Str) (S : List (Key × D)) (fo so : List D) (m : Nat) : Prop where
  s : ∀ x ∈ ns, ∃ z : Int, getK S (.inr x) = some (.int z)
  sl : S.length ≤ 4 + 2 * m
  f : ∀ x ∈ fo, IsRow x
  fl : fo.length ≤ m
  o : ∀ x ∈ so, IsSold x
  ol : so.length ≤ m
structure Names (ns : List Str) : Prop where
  ok : ∀ x ∈ ns, PyData.strOk x = true ∧ x.length ≤ 5
  ne : ns ≠ []
  le : ns.length ≤ 4
/-- stores of a book -/
abbrev bst (F : Feed) (R : Store) (M : DO) (S : List (Key × D)) (fo so : List D) : Store := F.o :: (R ++ [M, .dk S, .lst fo, .lst so])
/-- names of a book -/
abbrev benv (L : Nat) (sz menus spots : D) (ns : List Str) (kk : Int) (r : List (Option D)) : Env' :=
  some (.obj 0) :: some sz :: some menus :: some spots :: some (.lst (ns.map D.str)) :: some (.int kk) :: some (.obj (L + 2)) :: some (.obj (L + 3)) :: some (.obj (L + 4)) :: r
theorem lc_lst {tt : FF Bool} {te : FF D} {fe : FF D} {env : Env'} {st : Store} {xs : List D} {i : Nat} {p : D → Bool} {g : D → D} (h0 : fe env st = .ok (.lst xs) st) (hl : xs.length ≤ 16777216)
    (h : ∀ x ∈ xs, ∀ env1, env1 = (env.set i none).set i (some x) → tt env1 st = .ok (p x) st ∧ (p x = true → te env1 st = .ok (g x) st)) :
    flc false (fitems fe) (.one i) tt te [i] env st = .ok (.lst ((xs.filter p).map g)) st := by
  unfold flc fitems
  rw [h0]
  simp only [bind_ok, itemsD, seqL, Option.map_some]
  rw [lcL_pure (p := p) (g := g) rfl _ [] (fun d hd => ⟨_, rfl, h d hd _ rfl⟩) (by simpa using hl)]
  simp
end DL.P
end
section
namespace DL.P
open PySem L2 PyProof.Rows
theorem fvar15 {o : Option D} {env : Env'} {st : Store} : fvar 15 (o :: env) st = fvar 14 env st := rfl
theorem fvar16 {o : Option D} {env : Env'} {st : Store} : fvar 16 (o :: env) st = fvar 15 env st := rfl
theorem o_ixk {st : Store} {n : Nat} {kvs : List (Key × D)} {s : Str} {d : D} (h : st[n]? = some (.dk kvs)) (hk : getK kvs (.inr s) = some d) : ixD (.obj n) (.str s) st = .ok d st := by
  unfold ixD
  have e : dctO st (.obj n) = some kvs := by unfold dctO; simp only [h]
  simp only [e]
  unfold ixDct
  simp only [e, keyD, hk]
theorem o_setk {st : Store} {n : Nat} {kvs : List (Key × D)} {s : Str} {d : D} (h : st[n]? = some (.dk kvs)) (hl : kvs.length < 16777216) : setD (.obj n) (.str s) d st = some (st.set n (.dk (putKD kvs (.inr s) d))) := by
  unfold setD lstAt
  simp only [h]
  unfold setK dctAt
  simp only [h, keyD]
  rw [if_pos hl]
section
variable {k L : Nat} {sz menus spots : D} {ns : List Str} {kk : Int} {e9 e10 e11 e12 e13 e14 e15 e16 : Option D} {F : Feed} {R : Store} {M : DO} {S : List (Key × D)} {fo so : List D} {m : Nat}
theorem b1 (k : Nat) (ok : F.Ok) (T : Store) : ∃ (F' : Feed) (w : Int), bk1 (k + 1) (benv L sz menus spots ns kk [e9, e10, e11, e12, e13, e14, e15, e16]) (F.o :: T) = .nx (benv L sz menus spots ns kk [some (.int w), e10, e11, e12, e13, e14, e15, e16]) (F'.o :: T) ∧ F'.Ok ∧ 0 ≤ w ∧ w < 9 := by
  obtain ⟨F1, d, e, d0, d1, ok1⟩ := s_draw k 9 (by decide) (by decide) F ok T
  have e1 : cl (k + 1) fe__law_draw [0, 1] [.obj 0, .int 9] (F.o :: T) = some (.int d, F1.o :: T) := e
  refine ⟨F1, d, ?_, ok1, d0, d1⟩
  simp only [bk1, benv]
  simp only [fseq_, fifS_, fret_, fasg_, fdrop_, fskip_, for__, fand_, fnot_, ftru_, fif_, fbool_, fchain_, fandV_, forV_, fnotV_, fneg_, fcallO_, fapp_, fcons_, fnil_, fcon_, fbin_, ftup_, flst_, fmatch_, fvar0, fvar1, fvar2, fvar3, fvar4, fvar5, fvar6, fvar7, fvar8, fvar9, fvar10, fvar11, fvar12, fvar13, fvar14, bind_ok, bind_stuck, toS_ok, toS_stuck, ofO_some, optS_some, gname_, truD_bl, Bool.not_true, Bool.not_false, Bool.false_eq_true, if_true, if_false, List.cons_append, List.nil_append, List.append_nil, List.set_cons_zero, List.set_cons_succ, endD_rt, endD_nx, ge_int, gt_int, le_int, lt_int, eq_int, add_int, sub_int, int_int, len_tup, isi_non_int, isi_non_bool, isi_non_str, isi_non_tuple, isi_bl_int, isi_bl_bool, isi_bl_str, isi_bl_tuple, isi_int_int, isi_int_bool, isi_int_str, isi_int_tuple, isi_str_int, isi_str_bool, isi_str_str, isi_str_tuple, isi_tup_int, isi_tup_bool, isi_tup_str, isi_tup_tuple, isi_lst_int, isi_lst_bool, isi_lst_str, isi_lst_tuple, e1]
theorem b2 (k : Nat) (w : Int) (hn : Names ns) (I : BInv ns S fo so m) : ∃ pl : List Str, ((∀ x ∈ pl, x ∈ ns) ∧ pl.length ≤ 1000) ∧ bk2 k (benv R.length sz menus spots ns kk [some (.int w), e10, e11, e12, e13, e14, e15, e16]) (bst F R M S fo so) = .nx (benv R.length sz menus spots ns kk [some (.int w), some (.lst (pl.map D.str)), e11, e12, e13, e14, e15, e16]) (bst F R M S fo so) := by
  have none_ : ∃ pl : List Str, ((∀ x ∈ pl, x ∈ ns) ∧ pl.length ≤ 1000) ∧ RS.nx (benv R.length sz menus spots ns kk [some (.int w), some (.lst []), e11, e12, e13, e14, e15, e16]) (bst F R M S fo so) = .nx (benv R.length sz menus spots ns kk [some (.int w), some (.lst (pl.map D.str)), e11, e12, e13, e14, e15, e16]) (bst F R M S fo so) := ⟨[], ⟨(fun _ h => by cases h), Nat.zero_le _⟩, rfl⟩
  by_cases h1 : 2 < w
  · by_cases h2 : w < 8
    · have q := lc_lst (tt := fbool (fbin (cmpD .Gt) (fbin ixD (fvar 6) (fvar 16)) (fcon (.int 0)))) (te := fvar 16) (fe := fvar 4) (env := benv R.length sz menus spots ns kk [some (.int w), e10, e11, e12, e13, e14, e15, e16]) (st := bst F R M S fo so) (xs := ns.map D.str) (i := 16)
        (p := fun d => match d with | .str s => (match getK S (.inr s) with | some (.int z) => decide (0 < z) | _ => false) | _ => false) (g := id) rfl (by have := hn.le; simp; omega) (fun x hx env1 he => by
          obtain ⟨s, hs, rfl⟩ := List.mem_map.mp hx
          obtain ⟨z, hz⟩ := I.s s hs
          subst he
          refine ⟨?_, fun _ => rfl⟩
          have q := o_ixk (st := bst F R M S fo so) (n := R.length + 2) g2 hz
          simp only [benv]
          simp only [fseq_, fifS_, fret_, fasg_, fdrop_, fskip_, for__, fand_, fnot_, ftru_, fif_, fbool_, fchain_, fandV_, forV_, fnotV_, fneg_, fcallO_, fapp_, fcons_, fnil_, fcon_, fbin_, ftup_, flst_, fmatch_, fvar0, fvar1, fvar2, fvar3, fvar4, fvar5, fvar6, fvar7, fvar8, fvar9, fvar10, fvar11, fvar12, fvar13, fvar14, bind_ok, bind_stuck, toS_ok, toS_stuck, ofO_some, optS_some, gname_, truD_bl, Bool.not_true, Bool.not_false, Bool.false_eq_true, if_true, if_false, List.cons_append, List.nil_append, List.append_nil, List.set_cons_zero, List.set_cons_succ, endD_rt, endD_nx, ge_int, gt_int, le_int, lt_int, eq_int, add_int, sub_int, int_int, len_tup, isi_non_int, isi_non_bool, isi_non_str, isi_non_tuple, isi_bl_int, isi_bl_bool, isi_bl_str, isi_bl_tuple, isi_int_int, isi_int_bool, isi_int_str, isi_int_tuple, isi_str_int, isi_str_bool, isi_str_str, isi_str_tuple, isi_tup_int, isi_tup_bool, isi_tup_str, isi_tup_tuple, isi_lst_int, isi_lst_bool, isi_lst_str, isi_lst_tuple, fvar15, fvar16, q]
          simp only [hz])
      refine ⟨ns.filter fun s => (match getK S (.inr s) with | some (.int z) => decide (0 < z) | _ => false), ⟨fun x hx => (List.mem_filter.mp hx).1, Nat.le_trans (List.length_filter_le _ _) (by have := hn.le; omega)⟩, ?_⟩
      rw [List.map_id, List.filter_map] at q
      simp only [benv] at q
      simp only [bk2, benv]
      simp only [fseq_, fifS_, fret_, fasg_, fdrop_, fskip_, for__, fand_, fnot_, ftru_, fif_, fbool_, fchain_, fandV_, forV_, fnotV_, fneg_, fcallO_, fapp_, fcons_, fnil_, fcon_, fbin_, ftup_, flst_, fmatch_, fvar0, fvar1, fvar2, fvar3, fvar4, fvar5, fvar6, fvar7, fvar8, fvar9, fvar10, fvar11, fvar12, fvar13, fvar14, bind_ok, bind_stuck, toS_ok, toS_stuck, ofO_some, optS_some, gname_, truD_bl, Bool.not_true, Bool.not_false, Bool.false_eq_true, if_true, if_false, List.cons_append, List.nil_append, List.append_nil, List.set_cons_zero, List.set_cons_succ, endD_rt, endD_nx, ge_int, gt_int, le_int, lt_int, eq_int, add_int, sub_int, int_int, len_tup, isi_non_int, isi_non_bool, isi_non_str, isi_non_tuple, isi_bl_int, isi_bl_bool, isi_bl_str, isi_bl_tuple, isi_int_int, isi_int_bool, isi_int_str, isi_int_tuple, isi_str_int, isi_str_bool, isi_str_str, isi_str_tuple, isi_tup_int, isi_tup_bool, isi_tup_str, isi_tup_tuple, isi_lst_int, isi_lst_bool, isi_lst_str, isi_lst_tuple, decide_eq_true h1, decide_eq_true h2, q]
      rfl
    · obtain ⟨pl, a, b⟩ := none_
      refine ⟨pl, a, ?_⟩
      rw [← b]
      simp only [bk2, benv]
      simp only [fseq_, fifS_, fret_, fasg_, fdrop_, fskip_, for__, fand_, fnot_, ftru_, fif_, fbool_, fchain_, fandV_, forV_, fnotV_, fneg_, fcallO_, fapp_, fcons_, fnil_, fcon_, fbin_, ftup_, flst_, fmatch_, fvar0, fvar1, fvar2, fvar3, fvar4, fvar5, fvar6, fvar7, fvar8, fvar9, fvar10, fvar11, fvar12, fvar13, fvar14, bind_ok, bind_stuck, toS_ok, toS_stuck, ofO_some, optS_some, gname_, truD_bl, Bool.not_true, Bool.not_false, Bool.false_eq_true, if_true, if_false, List.cons_append, List.nil_append, List.append_nil, List.set_cons_zero, List.set_cons_succ, endD_rt, endD_nx, ge_int, gt_int, le_int, lt_int, eq_int, add_int, sub_int, int_int, len_tup, isi_non_int, isi_non_bool, isi_non_str, isi_non_tuple, isi_bl_int, isi_bl_bool, isi_bl_str, isi_bl_tuple, isi_int_int, isi_int_bool, isi_int_str, isi_int_tuple, isi_str_int, isi_str_bool, isi_str_str, isi_str_tuple, isi_tup_int, isi_tup_bool, isi_tup_str, isi_tup_tuple, isi_lst_int, isi_lst_bool, isi_lst_str, isi_lst_tuple, decide_eq_true h1, decide_eq_false h2, List.length_nil, Nat.zero_le]
  · obtain ⟨pl, a, b⟩ := none_
    refine ⟨pl, a, ?_⟩
    rw [← b]
    simp only [bk2, benv]
    simp only [fseq_, fifS_, fret_, fasg_, fdrop_, fskip_, for__, fand_, fnot_, ftru_, fif_, fbool_, fchain_, fandV_, forV_, fnotV_, fneg_, fcallO_, fapp_, fcons_, fnil_, fcon_, fbin_, ftup_, flst_, fmatch_, fvar0, fvar1, fvar2, fvar3, fvar4, fvar5, fvar6, fvar7, fvar8, fvar9, fvar10, fvar11, fvar12, fvar13, fvar14, bind_ok, bind_stuck, toS_ok, toS_stuck, ofO_some, optS_some, gname_, truD_bl, Bool.not_true, Bool.not_false, Bool.false_eq_true, if_true, if_false, List.cons_append, List.nil_append, List.append_nil, List.set_cons_zero, List.set_cons_succ, endD_rt, endD_nx, ge_int, gt_int, le_int, lt_int, eq_int, add_int, sub_int, int_int, len_tup, isi_non_int, isi_non_bool, isi_non_str, isi_non_tuple, isi_bl_int, isi_bl_bool, isi_bl_str, isi_bl_tuple, isi_int_int, isi_int_bool, isi_int_str, isi_int_tuple, isi_str_int, isi_str_bool, isi_str_str, isi_str_tuple, isi_tup_int, isi_tup_bool, isi_tup_str, isi_tup_tuple, isi_lst_int, isi_lst_bool, isi_lst_str, isi_lst_tuple, decide_eq_false h1, List.length_nil, Nat.zero_le]
theorem strs_goods {ns pl : List Str} (hn : ∀ x ∈ ns, PyData.strOk x = true) (hp : ∀ x ∈ pl, x ∈ ns) : goods (pl.map D.str) = true ∧ dps (pl.map D.str) ≤ 0 := by
  induction pl with
  | nil => exact ⟨rfl, Nat.le_refl _⟩
  | cons s r ih =>
    obtain ⟨h1, h2⟩ := ih fun x hx => hp x (List.mem_cons_of_mem _ hx)
    refine ⟨?_, ?_⟩
    · simp only [List.map_cons, goods, h1, good, hn s (hp s List.mem_cons_self), Bool.and_self]
    · simp only [List.map_cons, dps, dp]; omega
theorem b3 (k : Nat) (w : Int) (hn : Names ns) (pl : List Str) (hp : ∀ x ∈ pl, x ∈ ns) (hpl : pl.length ≤ 1000) (st : Store) : ∃ pl' : List Str, (∀ x ∈ pl', x ∈ ns) ∧ pl' ≠ [] ∧ pl'.length ≤ 1000 ∧ bk3 k (benv L sz menus spots ns kk [some (.int w), some (.lst (pl.map D.str)), e11, e12, e13, e14, e15, e16]) st = .nx (benv L sz menus spots ns kk [some (.int w), some (.lst (pl'.map D.str)), e11, e12, e13, e14, e15, e16]) st := by
  obtain ⟨g, d⟩ := strs_goods (fun x hx => (hn.ok x hx).1) hp
  have e : cmpD .NotEq (.lst (pl.map D.str)) (.lst []) st = .ok (.bl (!(pl.map D.str).isEmpty)) st := eq_nilL true st g (by omega)
  cases pl with
  | nil =>
    refine ⟨ns, fun _ h => h, hn.ne, by have := hn.le; omega, ?_⟩
    simp only [List.map_nil, List.isEmpty_nil] at e
    simp only [bk3, benv]
    simp only [fseq_, fifS_, fret_, fasg_, fdrop_, fskip_, for__, fand_, fnot_, ftru_, fif_, fbool_, fchain_, fandV_, forV_, fnotV_, fneg_, fcallO_, fapp_, fcons_, fnil_, fcon_, fbin_, ftup_, flst_, fmatch_, fvar0, fvar1, fvar2, fvar3, fvar4, fvar5, fvar6, fvar7, fvar8, fvar9, fvar10, fvar11, fvar12, fvar13, fvar14, bind_ok, bind_stuck, toS_ok, toS_stuck, ofO_some, optS_some, gname_, truD_bl, Bool.not_true, Bool.not_false, Bool.false_eq_true, if_true, if_false, List.cons_append, List.nil_append, List.append_nil, List.set_cons_zero, List.set_cons_succ, endD_rt, endD_nx, ge_int, gt_int, le_int, lt_int, eq_int, add_int, sub_int, int_int, len_tup, isi_non_int, isi_non_bool, isi_non_str, isi_non_tuple, isi_bl_int, isi_bl_bool, isi_bl_str, isi_bl_tuple, isi_int_int, isi_int_bool, isi_int_str, isi_int_tuple, isi_str_int, isi_str_bool, isi_str_str, isi_str_tuple, isi_tup_int, isi_tup_bool, isi_tup_str, isi_tup_tuple, isi_lst_int, isi_lst_bool, isi_lst_str, isi_lst_tuple, e, List.length_nil, Nat.zero_le, List.map_nil]
  | cons s r =>
    refine ⟨s :: r, hp, by simp, hpl, ?_⟩
    simp only [List.map_cons, List.isEmpty_cons] at e
    simp only [bk3, benv]
    simp only [fseq_, fifS_, fret_, fasg_, fdrop_, fskip_, for__, fand_, fnot_, ftru_, fif_, fbool_, fchain_, fandV_, forV_, fnotV_, fneg_, fcallO_, fapp_, fcons_, fnil_, fcon_, fbin_, ftup_, flst_, fmatch_, fvar0, fvar1, fvar2, fvar3, fvar4, fvar5, fvar6, fvar7, fvar8, fvar9, fvar10, fvar11, fvar12, fvar13, fvar14, bind_ok, bind_stuck, toS_ok, toS_stuck, ofO_some, optS_some, gname_, truD_bl, Bool.not_true, Bool.not_false, Bool.false_eq_true, if_true, if_false, List.cons_append, List.nil_append, List.append_nil, List.set_cons_zero, List.set_cons_succ, endD_rt, endD_nx, ge_int, gt_int, le_int, lt_int, eq_int, add_int, sub_int, int_int, len_tup, isi_non_int, isi_non_bool, isi_non_str, isi_non_tuple, isi_bl_int, isi_bl_bool, isi_bl_str, isi_bl_tuple, isi_int_int, isi_int_bool, isi_int_str, isi_int_tuple, isi_str_int, isi_str_bool, isi_str_str, isi_str_tuple, isi_tup_int, isi_tup_bool, isi_tup_str, isi_tup_tuple, isi_lst_int, isi_lst_bool, isi_lst_str, isi_lst_tuple, e, List.length_nil, Nat.zero_le, List.map_cons]
/-- the first place of a text -/
theorem idx_str {s : Str} : ∀ {ns : List Str}, s ∈ ns → ∃ j : Nat, j < ns.length ∧ idxOfV (.str s) (ns.map V.str) = some j
  | x :: r, h => by
    by_cases e : x = s
    · subst e
      refine ⟨0, by simp, ?_⟩
      simp [idxOfV, eqV]
    · have hr : s ∈ r := by
        rcases List.mem_cons.mp h with e' | h
        · exact absurd e'.symm e
        · exact h
      obtain ⟨j, h1, h2⟩ := idx_str hr
      refine ⟨j + 1, by simp; omega, ?_⟩
      have e1 : eqV (.str x) (.str s) = false := by
        show (x == s) = false
        rw [beq_eq_false_iff_ne]; exact e
      simp [idxOfV, e1, h2]
theorem index_strs {s : Str} {ns : List Str} (h : s ∈ ns) (st : Store) : ∃ j : Nat, j < ns.length ∧ indexD (.lst (ns.map D.str)) [.str s] st = some (.int (j : Int), st) := by
  obtain ⟨j, h1, h2⟩ := idx_str h
  refine ⟨j, h1, ?_⟩
  unfold indexD
  simp only [seqL, Option.bind_some, flat_strs, flatD, h2, Option.map_some]
theorem at_strs {ns : List Str} {i : Int} (h0 : 0 ≤ i) (h1 : i < ns.length) : ∃ s ∈ ns, atI (ns.map D.str) i = some (.str s) := by
  obtain ⟨v, hv, hi⟩ := atI_mem (xs := ns.map D.str) h0 (by simpa using h1)
  obtain ⟨s, hs, rfl⟩ := List.mem_map.mp hv
  exact ⟨s, hs, hi⟩
theorem b4 (k : Nat) (ok : F.Ok) (w : Int) (hn : Names ns) (pl : List Str) (hp : ∀ x ∈ pl, x ∈ ns) (hne : pl ≠ []) (hl : pl.length ≤ 1000) (T : Store) : ∃ (F' : Feed) (s : Str) (n : Int),
    bk4 (k + 1) (benv L sz menus spots ns kk [some (.int w), some (.lst (pl.map D.str)), e11, e12, e13, e14, e15, e16]) (F.o :: T) = .nx (benv L sz menus spots ns kk [some (.int w), some (.lst (pl.map D.str)), e11, some (.int n), e13, some (.str s), e15, e16]) (F'.o :: T) ∧ F'.Ok ∧ s ∈ ns ∧ 1 ≤ n ∧ n ≤ 5 := by
  have hl0 : 0 < pl.length := List.length_pos_iff.mpr hne
  obtain ⟨F1, i, e, i0, i1, ok1⟩ := s_draw k (pl.length : Nat) (by omega) (by omega) F ok T
  have e1 : cl (k + 1) fe__law_draw [0, 1] [.obj 0, .int (pl.length : Nat)] (F.o :: T) = some (.int i, F1.o :: T) := e
  obtain ⟨F2, j, e, j0, j1, ok2⟩ := s_draw k 5 (by decide) (by decide) F1 ok1 T
  have e2 : cl (k + 1) fe__law_draw [0, 1] [.obj 0, .int 5] (F1.o :: T) = some (.int j, F2.o :: T) := e
  obtain ⟨s, hs, ha⟩ := at_strs i0 i1
  have q := ix_lst (F1.o :: T) ha
  refine ⟨F2, s, 1 + j, ?_, ok2, hp s hs, by omega, by omega⟩
  simp only [bk4, benv]
  simp only [fseq_, fifS_, fret_, fasg_, fdrop_, fskip_, for__, fand_, fnot_, ftru_, fif_, fbool_, fchain_, fandV_, forV_, fnotV_, fneg_, fcallO_, fapp_, fcons_, fnil_, fcon_, fbin_, ftup_, flst_, fmatch_, fvar0, fvar1, fvar2, fvar3, fvar4, fvar5, fvar6, fvar7, fvar8, fvar9, fvar10, fvar11, fvar12, fvar13, fvar14, bind_ok, bind_stuck, toS_ok, toS_stuck, ofO_some, optS_some, gname_, truD_bl, Bool.not_true, Bool.not_false, Bool.false_eq_true, if_true, if_false, List.cons_append, List.nil_append, List.append_nil, List.set_cons_zero, List.set_cons_succ, endD_rt, endD_nx, ge_int, gt_int, le_int, lt_int, eq_int, add_int, sub_int, int_int, len_tup, isi_non_int, isi_non_bool, isi_non_str, isi_non_tuple, isi_bl_int, isi_bl_bool, isi_bl_str, isi_bl_tuple, isi_int_int, isi_int_bool, isi_int_str, isi_int_tuple, isi_str_int, isi_str_bool, isi_str_str, isi_str_tuple, isi_tup_int, isi_tup_bool, isi_tup_str, isi_tup_tuple, isi_lst_int, isi_lst_bool, isi_lst_str, isi_lst_tuple, len_lst, List.length_map, e1, q, e2, List.length_cons, List.length_nil, show (0 + 1 + 1 : Nat) ≤ 16777216 by decide, gtup_, gcons_, gnil_]
theorem b5 (k : Nat) (ok : F.Ok) (w : Int) (hn : Names ns) (pl : Option D) (s : Str) (hs : s ∈ ns) (T : Store) : ∃ (F' : Feed) (g : Str),
    bk5 (k + 1) (benv L sz menus spots ns kk [some (.int w), pl, e11, e12, e13, some (.str s), e15, e16]) (F.o :: T) = .nx (benv L sz menus spots ns kk [some (.int w), pl, some (.str g), e12, e13, some (.str s), e15, e16]) (F'.o :: T) ∧ F'.Ok ∧ g ∈ ns := by
  have hl0 : 0 < ns.length := List.length_pos_iff.mpr hn.ne
  have hle := hn.le
  obtain ⟨j, j1, ej⟩ := index_strs hs (F.o :: T)
  have hm : ∃ q : Int, min2D true [.int 1, .int ((ns.length : Int) - 1)] (F.o :: T) = some (.int q, F.o :: T) ∧ 0 < q ∧ q < 1073741824 := by
    refine ⟨if ((ns.length : Int) - 1) > 1 then ((ns.length : Int) - 1) else 1, rfl, ?_, ?_⟩ <;> split <;> omega
  obtain ⟨q, eq, q0, q1⟩ := hm
  obtain ⟨F1, i, e, i0, i1, ok1⟩ := s_draw k q q0 q1 F ok T
  have e1 : cl (k + 1) fe__law_draw [0, 1] [.obj 0, .int q] (F.o :: T) = some (.int i, F1.o :: T) := e
  have hlp : (0 : Int) < (ns.length : Int) := by omega
  obtain ⟨g, hg, ha⟩ := at_strs (ns := ns) (i := ((j : Int) + 1 + i) % (ns.length : Int)) (Int.emod_nonneg _ (by omega)) (Int.emod_lt_of_pos _ hlp)
  have qx := ix_lst (F1.o :: T) ha
  refine ⟨F1, g, ?_, ok1, hg⟩
  have tl : tyName (F.o :: T) (.lst (ns.map D.str)) = some "list" := rfl
  simp only [bk5, benv]
  simp only [fseq_, fifS_, fret_, fasg_, fdrop_, fskip_, for__, fand_, fnot_, ftru_, fif_, fbool_, fchain_, fandV_, forV_, fnotV_, fneg_, fcallO_, fapp_, fcons_, fnil_, fcon_, fbin_, ftup_, flst_, fmatch_, fvar0, fvar1, fvar2, fvar3, fvar4, fvar5, fvar6, fvar7, fvar8, fvar9, fvar10, fvar11, fvar12, fvar13, fvar14, bind_ok, bind_stuck, toS_ok, toS_stuck, ofO_some, optS_some, gname_, truD_bl, Bool.not_true, Bool.not_false, Bool.false_eq_true, if_true, if_false, List.cons_append, List.nil_append, List.append_nil, List.set_cons_zero, List.set_cons_succ, endD_rt, endD_nx, ge_int, gt_int, le_int, lt_int, eq_int, add_int, sub_int, int_int, len_tup, isi_non_int, isi_non_bool, isi_non_str, isi_non_tuple, isi_bl_int, isi_bl_bool, isi_bl_str, isi_bl_tuple, isi_int_int, isi_int_bool, isi_int_str, isi_int_tuple, isi_str_int, isi_str_bool, isi_str_str, isi_str_tuple, isi_tup_int, isi_tup_bool, isi_tup_str, isi_tup_tuple, isi_lst_int, isi_lst_bool, isi_lst_str, isi_lst_tuple, fmeth_, tl, ej, len_lst, List.length_map, eq, e1, mod_pos _ hlp, qx]
end
end DL.P
end
section
namespace DL.P
open PySem L2 PyProof.Rows
section
variable {k L : Nat} {sz menus spots : D} {ns : List Str} {kk : Int} {e9 e10 e11 e12 e13 e14 e15 e16 : Option D} {F : Feed} {R : Store} {M : DO} {S : List (Key × D)} {fo so : List D} {m : Nat}
theorem b6 (k : Nat) (w n : Int) (s : Str) (hs : s ∈ ns) (hn5 : n ≤ 5) (I : BInv ns S fo so m) (pl gl : Option D) : ∃ n' : Int, n' ≤ 5 ∧
    bk6 k (benv R.length sz menus spots ns kk [some (.int w), pl, gl, some (.int n), e13, some (.str s), e15, e16]) (bst F R M S fo so) = .nx (benv R.length sz menus spots ns kk [some (.int w), pl, gl, some (.int n'), e13, some (.str s), e15, e16]) (bst F R M S fo so) := by
  obtain ⟨z, hz⟩ := I.s s hs
  have q := o_ixk (st := bst F R M S fo so) (n := R.length + 2) g2 hz
  by_cases h : 2 < w
  · have e : min2D false [.int n, .int z] (bst F R M S fo so) = some (.int (if z < n then z else n), bst F R M S fo so) := rfl
    refine ⟨if z < n then z else n, by split <;> omega, ?_⟩
    simp only [bk6, benv]
    simp only [fseq_, fifS_, fret_, fasg_, fdrop_, fskip_, for__, fand_, fnot_, ftru_, fif_, fbool_, fchain_, fandV_, forV_, fnotV_, fneg_, fcallO_, fapp_, fcons_, fnil_, fcon_, fbin_, ftup_, flst_, fmatch_, fvar0, fvar1, fvar2, fvar3, fvar4, fvar5, fvar6, fvar7, fvar8, fvar9, fvar10, fvar11, fvar12, fvar13, fvar14, bind_ok, bind_stuck, toS_ok, toS_stuck, ofO_some, optS_some, gname_, truD_bl, Bool.not_true, Bool.not_false, Bool.false_eq_true, if_true, if_false, List.cons_append, List.nil_append, List.append_nil, List.set_cons_zero, List.set_cons_succ, endD_rt, endD_nx, ge_int, gt_int, le_int, lt_int, eq_int, add_int, sub_int, int_int, len_tup, isi_non_int, isi_non_bool, isi_non_str, isi_non_tuple, isi_bl_int, isi_bl_bool, isi_bl_str, isi_bl_tuple, isi_int_int, isi_int_bool, isi_int_str, isi_int_tuple, isi_str_int, isi_str_bool, isi_str_str, isi_str_tuple, isi_tup_int, isi_tup_bool, isi_tup_str, isi_tup_tuple, isi_lst_int, isi_lst_bool, isi_lst_str, isi_lst_tuple, decide_eq_true h, q, e]
  · refine ⟨n, hn5, ?_⟩
    simp only [bk6, benv]
    simp only [fseq_, fifS_, fret_, fasg_, fdrop_, fskip_, for__, fand_, fnot_, ftru_, fif_, fbool_, fchain_, fandV_, forV_, fnotV_, fneg_, fcallO_, fapp_, fcons_, fnil_, fcon_, fbin_, ftup_, flst_, fmatch_, fvar0, fvar1, fvar2, fvar3, fvar4, fvar5, fvar6, fvar7, fvar8, fvar9, fvar10, fvar11, fvar12, fvar13, fvar14, bind_ok, bind_stuck, toS_ok, toS_stuck, ofO_some, optS_some, gname_, truD_bl, Bool.not_true, Bool.not_false, Bool.false_eq_true, if_true, if_false, List.cons_append, List.nil_append, List.append_nil, List.set_cons_zero, List.set_cons_succ, endD_rt, endD_nx, ge_int, gt_int, le_int, lt_int, eq_int, add_int, sub_int, int_int, len_tup, isi_non_int, isi_non_bool, isi_non_str, isi_non_tuple, isi_bl_int, isi_bl_bool, isi_bl_str, isi_bl_tuple, isi_int_int, isi_int_bool, isi_int_str, isi_int_tuple, isi_str_int, isi_str_bool, isi_str_str, isi_str_tuple, isi_tup_int, isi_tup_bool, isi_tup_str, isi_tup_tuple, isi_lst_int, isi_lst_bool, isi_lst_str, isi_lst_tuple, decide_eq_false h]
/-- how a row is told of: what the loop's body leaves -/
def Goes (k : Nat) (L : Nat) (sz menus spots : D) (ns : List Str) (kk : Int) (R : Store) (M : DO) (m : Nat) (r : RS) : Prop :=
  ∃ (F' : Feed) (S' : List (Key × D)) (fo' so' : List D) (a9 a10 a11 a12 a13 a14 a15 a16 : Option D), r = .nx (benv L sz menus spots ns kk [a9, a10, a11, a12, a13, a14, a15, a16]) (bst F' R M S' fo' so') ∧ F'.Ok ∧ BInv ns S' fo' so' (m + 1)
theorem put_ok (I : BInv ns S fo so m) {s : Str} {z : Int} {T : List (Key × D)} (hT : ∀ x ∈ ns, ∃ z : Int, getK T (.inr x) = some (.int z)) : ∀ x ∈ ns, ∃ y : Int, getK (putKD T (.inr s) (.int z)) (.inr x) = some (.int y) := by
  intro x hx
  rw [getK_put]
  split
  · exact ⟨z, rfl⟩
  · exact hT x hx
theorem row_mk {w : Str} {r : List D} (hw : PyData.strOk w = true ∧ w.length ≤ 5) (hr : ∀ a ∈ r, isAtom a = true) (hl : r.length ≤ 3) : IsRow (.tup (.str w :: r)) := by
  refine ⟨w, r, rfl, fun a ha => ?_, hl⟩
  rcases List.mem_cons.mp ha with rfl | ha
  · simp only [isAtom, hw.1, hw.2, decide_true, Bool.and_self]
  · exact hr a ha
theorem at_int {i : Int} (h0 : 0 ≤ i) (h1 : i < 10) : isAtom (.int i) = true := by
  simp only [isAtom, h0, h1, decide_true, Bool.and_self]
theorem at_str {s : Str} (h : PyData.strOk s = true ∧ s.length ≤ 5) : isAtom (.str s) = true := by
  simp only [isAtom, h.1, h.2, decide_true, Bool.and_self]
theorem mem_snoc {P : D → Prop} {l : List D} {y : D} (h : ∀ x ∈ l, P x) (hy : P y) : ∀ x ∈ l ++ [y], P x := by
  intro x hx
  rcases List.mem_append.mp hx with m | m
  · exact h x m
  · simp only [List.mem_singleton] at m
    subst m; exact hy
theorem atI_last (l : List D) (y : D) : atI (l ++ [y]) (-1) = some y := by
  unfold atI ixN
  rw [if_neg (by decide), if_pos (by simp only [List.length_append, List.length_cons, List.length_nil]; omega)]
  have e : ((-1 : Int) + (((l ++ [y]).length : Nat) : Int)).toNat = l.length := by
    simp only [List.length_append, List.length_cons, List.length_nil]
    omega
  simp only [Option.bind_some, e]
  simp
/-- a sold unit comes back -/
theorem way_back (k : Nat) (w n : Int) (s g : Str) (hn : Names ns) (hs : s ∈ ns) (I : BInv ns S fo so m) (hm : m ≤ 20) (ok : F.Ok) (hso : so.isEmpty = false) (pl : Option D) :
    Goes k R.length sz menus spots ns kk R M m (bk7 (k + 1) (benv R.length sz menus spots ns kk [some (.int 8), pl, some (.str g), some (.int n), e13, some (.str s), e15, e16]) (bst F R M S fo so)) := by
  have hl0 : 0 < so.length := by
    cases so with
    | nil => cases hso
    | cons _ _ => simp
  obtain ⟨gs, gd⟩ := sold_goods I.o
  have e0 : cmpD .NotEq (.obj (R.length + 4)) (.lst []) (bst F R M S fo so) = .ok (.bl (!so.isEmpty)) (bst F R M S fo so) := o_ne g4 gs (by omega)
  have ol := I.ol
  obtain ⟨F1, i, e, i0, i1, ok1⟩ := s_draw k (so.length : Nat) (by omega) (by omega) F ok (R ++ [M, .dk S, .lst fo, .lst so])
  have e1 : cl (k + 1) fe__law_draw [0, 1] [.obj 0, .int (so.length : Nat)] (bst F R M S fo so) = some (.int i, bst F1 R M S fo so) := e
  obtain ⟨v, hv, -⟩ := at_nat (xs := so) i0 i1
  obtain ⟨a, b, rfl, a0, a1, b0, b1⟩ := I.o v (List.mem_of_getElem? hv)
  have p1 : popAtD (.obj (R.length + 4)) [.int i] (bst F1 R M S fo so) = some (.tup [.int a, .int b], bst F1 R M S fo (so.eraseIdx i.toNat)) := (o_pop g4 i0 i1 (by omega) hv).trans (by rw [st4])
  have l1 : lenD [.obj (R.length + 4)] (bst F R M S fo so) = some (.int (so.length : Nat), bst F R M S fo so) := o_len g4
  have t1 : tyName (bst F R M S fo so) (.obj (R.length + 4)) = some "list" := o_ty g4
  have t2 : tyName (bst F1 R M S fo (so.eraseIdx i.toNat)) (.obj (R.length + 3)) = some "list" := o_ty g3
  have fl := I.fl
  have a1' : appendD (.obj (R.length + 3)) [.tup [.str "back", .int a, .str s]] (bst F1 R M S fo (so.eraseIdx i.toNat)) = some (.non, bst F1 R M S (fo ++ [.tup [.str "back", .int a, .str s]]) (so.eraseIdx i.toNat)) := (o_app g3 (by omega) _).trans (by rw [st3])
  obtain ⟨z, hz⟩ := I.s s hs
  have q1 : ixD (.obj (R.length + 2)) (.str s) (bst F1 R M S (fo ++ [.tup [.str "back", .int a, .str s]]) (so.eraseIdx i.toNat)) = .ok (.int z) _ := o_ixk g2 hz
  have sl := I.sl
  have s1 : setD (.obj (R.length + 2)) (.str s) (.int (z + b)) (bst F1 R M S (fo ++ [.tup [.str "back", .int a, .str s]]) (so.eraseIdx i.toNat)) = some (bst F1 R M (putKD S (.inr s) (.int (z + b))) (fo ++ [.tup [.str "back", .int a, .str s]]) (so.eraseIdx i.toNat)) := (o_setk g2 (by omega)).trans (by rw [st2])
  refine ⟨F1, putKD S (.inr s) (.int (z + b)), fo ++ [.tup [.str "back", .int a, .str s]], (so.eraseIdx i.toNat), some (.int 8), pl, some (.str g), some (.int b), e13, some (.str s), some (.int a), e16, ?_, ok1, ?_⟩
  · simp only [bk7, benv]
    simp only [fseq_, fifS_, fret_, fasg_, fdrop_, fskip_, for__, fand_, fnot_, ftru_, fif_, fbool_, fchain_, fandV_, forV_, fnotV_, fneg_, fcallO_, fapp_, fcons_, fnil_, fcon_, fbin_, ftup_, flst_, fmatch_, fvar0, fvar1, fvar2, fvar3, fvar4, fvar5, fvar6, fvar7, fvar8, fvar9, fvar10, fvar11, fvar12, fvar13, fvar14, bind_ok, bind_stuck, toS_ok, toS_stuck, ofO_some, optS_some, gname_, truD_bl, Bool.not_true, Bool.not_false, Bool.false_eq_true, if_true, if_false, List.cons_append, List.nil_append, List.append_nil, List.set_cons_zero, List.set_cons_succ, endD_rt, endD_nx, ge_int, gt_int, le_int, lt_int, eq_int, add_int, sub_int, int_int, len_tup, isi_non_int, isi_non_bool, isi_non_str, isi_non_tuple, isi_bl_int, isi_bl_bool, isi_bl_str, isi_bl_tuple, isi_int_int, isi_int_bool, isi_int_str, isi_int_tuple, isi_str_int, isi_str_bool, isi_str_str, isi_str_tuple, isi_tup_int, isi_tup_bool, isi_tup_str, isi_tup_tuple, isi_lst_int, isi_lst_bool, isi_lst_str, isi_lst_tuple, show ((8 : Int) == 8) = true from rfl, List.length_nil, Nat.zero_le, e0, hso, fmeth_, t1, l1, e1, p1, gtup_, gcons_, gnil_, fvar15, fvar16, t2, List.length_cons, show (0 + 1 + 1 + 1 : Nat) ≤ 16777216 by decide, show (0 + 1 + 1 : Nat) = 2 from rfl, a1', q1, gsub_, s1, Option.map_some]
  · refine ⟨put_ok I I.s, ?_, mem_snoc I.f ?_, ?_, fun x hx => I.o x (List.mem_of_mem_eraseIdx hx), ?_⟩
    · have := len_put S (.inr s) (.int (z + b)); omega
    · refine row_mk (by decide +kernel) ?_ (by simp)
      intro y hy
      simp only [List.mem_cons, List.not_mem_nil, or_false] at hy
      rcases hy with rfl | rfl
      · exact at_int a0 a1
      · exact at_str (hn.ok s hs)
    · simp only [List.length_append, List.length_cons, List.length_nil]; omega
    · rw [List.length_eraseIdx]; split <;> omega
theorem in_bl (i : Int) (l : List Int) (st : Store) (h : True) : ∃ b, cmpD .In (.int i) (.tup (l.map D.int)) st = .ok (.bl b) st := by
  have hf : ∀ l : List Int, flatDs (l.map D.int) = some (l.map V.int) := by
    intro l
    induction l with
    | nil => rfl
    | cons a r ih => simp [flatDs, flatD, ih]
  refine ⟨inV (.int i) (l.map V.int), ?_⟩
  show inD false (.int i) (.tup (l.map D.int)) st = _
  unfold inD
  simp only [dctO, flatD, seqA, Option.bind_some, hf]
  unfold inFlat
  simp only [flatD, seqA, Option.bind_some, hf]
  rfl
theorem ne_strs {x y : Str} (hx : PyData.strOk x = true) (hy : PyData.strOk y = true) (st : Store) : ∃ b, cmpD .NotEq (.str x) (.str y) st = .ok (.bl b) st := ⟨_, eq_strD true x y st hx hy⟩
/-- units come in: the last way -/
theorem way_come (k : Nat) (n : Int) (w : Option D) (s : Str) (hn : Names ns) (hs : s ∈ ns) (hn5 : n ≤ 5) (I : BInv ns S fo so m) (hm : m ≤ 20) (ok : F.Ok) (pl gl : Option D) :
    Goes k R.length sz menus spots ns kk R M m ((fseq (fasg (fcallO (min2D true) (fcons (fcon (.int 1)) (fcons (fvar 12) fnil))) (gname 12))
     (fseq (fdrop (fmeth "list" appendD (fvar 7) (fcons (ftup (fcons (fcon (.str "come")) (fcons (fvar 14) (fcons (fbin ixD (flst false (fcons (fcon (.str "ash")) (fcons (fcon (.str "b")) (fcons (fcon (.str "come")) (fcons (fcon (.str "zz")) fnil))))) (fcallO (cl (k + 1) fe__law_draw [0, 1]) (fapp (fcons (fvar 0) (fcons (fcon (.int 4)) fnil)) fnil))) (fcons (fvar 12) fnil))))) fnil)))
     (fseq (fasg (fbin (binD2 .Add) (fbin ixD (fvar 6) (fvar 14)) (fvar 12)) (gsub (fvar 6) (fvar 14)))
     fskip))) (benv R.length sz menus spots ns kk [w, pl, gl, some (.int n), e13, some (.str s), e15, e16]) (bst F R M S fo so)) := by
  have hmax : ∃ n2 : Int, min2D true [.int 1, .int n] (bst F R M S fo so) = some (.int n2, bst F R M S fo so) ∧ 1 ≤ n2 ∧ n2 ≤ 5 := ⟨if n > 1 then n else 1, rfl, by split <;> omega, by split <;> omega⟩
  obtain ⟨n2, e0, n20, n21⟩ := hmax
  obtain ⟨F1, i, e, i0, i1, ok1⟩ := s_draw k 4 (by decide) (by decide) F ok (R ++ [M, .dk S, .lst fo, .lst so])
  have e1 : cl (k + 1) fe__law_draw [0, 1] [.obj 0, .int 4] (bst F R M S fo so) = some (.int i, bst F1 R M S fo so) := e
  obtain ⟨v, hv, hvi⟩ := atI_mem (xs := [D.str "ash", .str "b", .str "come", .str "zz"]) (i := i) i0 (by show i < ((4 : Nat) : Int); omega)
  have q0 : ixD (.lst [.str "ash", .str "b", .str "come", .str "zz"]) (.int i) (bst F1 R M S fo so) = .ok v _ := ix_lst _ hvi
  have va : isAtom v = true := by
    have : ∀ v ∈ [D.str "ash", .str "b", .str "come", .str "zz"], isAtom v = true := by decide +kernel
    exact this v hv
  have t2 : tyName (bst F R M S fo so) (.obj (R.length + 3)) = some "list" := o_ty g3
  have fl := I.fl
  have a1' : appendD (.obj (R.length + 3)) [.tup [.str "come", .str s, v, .int n2]] (bst F1 R M S fo so) = some (.non, bst F1 R M S (fo ++ [.tup [.str "come", .str s, v, .int n2]]) so) := (o_app g3 (by omega) _).trans (by rw [st3])
  obtain ⟨z, hz⟩ := I.s s hs
  have q1 : ixD (.obj (R.length + 2)) (.str s) (bst F1 R M S (fo ++ [.tup [.str "come", .str s, v, .int n2]]) so) = .ok (.int z) _ := o_ixk g2 hz
  have sl := I.sl
  have s1 : setD (.obj (R.length + 2)) (.str s) (.int (z + n2)) (bst F1 R M S (fo ++ [.tup [.str "come", .str s, v, .int n2]]) so) = some (bst F1 R M (putKD S (.inr s) (.int (z + n2))) (fo ++ [.tup [.str "come", .str s, v, .int n2]]) so) := (o_setk g2 (by omega)).trans (by rw [st2])
  refine ⟨F1, putKD S (.inr s) (.int (z + n2)), fo ++ [.tup [.str "come", .str s, v, .int n2]], so, w, pl, gl, some (.int n2), e13, some (.str s), e15, e16, ?_, ok1, ?_⟩
  · simp only [benv]
    simp only [fseq_, fifS_, fret_, fasg_, fdrop_, fskip_, for__, fand_, fnot_, ftru_, fif_, fbool_, fchain_, fandV_, forV_, fnotV_, fneg_, fcallO_, fapp_, fcons_, fnil_, fcon_, fbin_, ftup_, flst_, fmatch_, fvar0, fvar1, fvar2, fvar3, fvar4, fvar5, fvar6, fvar7, fvar8, fvar9, fvar10, fvar11, fvar12, fvar13, fvar14, bind_ok, bind_stuck, toS_ok, toS_stuck, ofO_some, optS_some, gname_, truD_bl, Bool.not_true, Bool.not_false, Bool.false_eq_true, if_true, if_false, List.cons_append, List.nil_append, List.append_nil, List.set_cons_zero, List.set_cons_succ, endD_rt, endD_nx, ge_int, gt_int, le_int, lt_int, eq_int, add_int, sub_int, int_int, len_tup, isi_non_int, isi_non_bool, isi_non_str, isi_non_tuple, isi_bl_int, isi_bl_bool, isi_bl_str, isi_bl_tuple, isi_int_int, isi_int_bool, isi_int_str, isi_int_tuple, isi_str_int, isi_str_bool, isi_str_str, isi_str_tuple, isi_tup_int, isi_tup_bool, isi_tup_str, isi_tup_tuple, isi_lst_int, isi_lst_bool, isi_lst_str, isi_lst_tuple, e0, fmeth_, t2, List.length_cons, List.length_nil, show (0 + 1 + 1 + 1 + 1 : Nat) ≤ 16777216 by decide, e1, q0, a1', q1, gsub_, s1, Option.map_some]
  · refine ⟨put_ok I I.s, ?_, mem_snoc I.f ?_, ?_, I.o, by have := I.ol; omega⟩
    · have := len_put S (.inr s) (.int (z + n2)); omega
    · refine row_mk (by decide +kernel) ?_ (by simp)
      intro y hy
      simp only [List.mem_cons, List.not_mem_nil, or_false] at hy
      rcases hy with rfl | rfl | rfl
      · exact at_str (hn.ok s hs)
      · exact va
      · exact at_int (by omega) (by omega)
    · simp only [List.length_append, List.length_cons, List.length_nil]; omega
/-- units move -/
theorem way_move (k : Nat) (n : Int) (w : Option D) (s g : Str) (hn : Names ns) (hs : s ∈ ns) (hg : g ∈ ns) (h0 : 0 < n) (hn5 : n ≤ 5) (I : BInv ns S fo so m) (hm : m ≤ 20) (ok : F.Ok) (pl : Option D) :
    Goes k R.length sz menus spots ns kk R M m ((fseq (fdrop (fmeth "list" appendD (fvar 7) (fcons (ftup (fcons (fcon (.str "move")) (fcons (fvar 14) (fcons (fvar 11) (fcons (fvar 12) fnil))))) fnil)))
    (fseq (fasg (ftup (fcons (fbin (binD2 .Sub) (fbin ixD (fvar 6) (fvar 14)) (fvar 12)) (fcons (fbin (binD2 .Add) (fbin ixD (fvar 6) (fvar 11)) (fvar 12)) fnil))) (gtup 2 (gcons (gsub (fvar 6) (fvar 14)) (gcons (gsub (fvar 6) (fvar 11)) gnil))))
    fskip)) (benv R.length sz menus spots ns kk [w, pl, some (.str g), some (.int n), e13, some (.str s), e15, e16]) (bst F R M S fo so)) := by
  have t2 : tyName (bst F R M S fo so) (.obj (R.length + 3)) = some "list" := o_ty g3
  have fl := I.fl
  have a1' : appendD (.obj (R.length + 3)) [.tup [.str "move", .str s, .str g, .int n]] (bst F R M S fo so) = some (.non, bst F R M S (fo ++ [.tup [.str "move", .str s, .str g, .int n]]) so) := (o_app g3 (by omega) _).trans (by rw [st3])
  obtain ⟨z, hz⟩ := I.s s hs
  obtain ⟨y, hy⟩ := I.s g hg
  have q1 : ixD (.obj (R.length + 2)) (.str s) (bst F R M S (fo ++ [.tup [.str "move", .str s, .str g, .int n]]) so) = .ok (.int z) _ := o_ixk g2 hz
  have q2 : ixD (.obj (R.length + 2)) (.str g) (bst F R M S (fo ++ [.tup [.str "move", .str s, .str g, .int n]]) so) = .ok (.int y) _ := o_ixk g2 hy
  have sl := I.sl
  have lp := len_put S (.inr s) (.int (z - n))
  have s1 : setD (.obj (R.length + 2)) (.str s) (.int (z - n)) (bst F R M S (fo ++ [.tup [.str "move", .str s, .str g, .int n]]) so) = some (bst F R M (putKD S (.inr s) (.int (z - n))) (fo ++ [.tup [.str "move", .str s, .str g, .int n]]) so) := (o_setk g2 (by omega)).trans (by rw [st2])
  have s2 : setD (.obj (R.length + 2)) (.str g) (.int (y + n)) (bst F R M (putKD S (.inr s) (.int (z - n))) (fo ++ [.tup [.str "move", .str s, .str g, .int n]]) so) = some (bst F R M (putKD (putKD S (.inr s) (.int (z - n))) (.inr g) (.int (y + n))) (fo ++ [.tup [.str "move", .str s, .str g, .int n]]) so) := (o_setk g2 (by omega)).trans (by rw [st2])
  refine ⟨F, putKD (putKD S (.inr s) (.int (z - n))) (.inr g) (.int (y + n)), fo ++ [.tup [.str "move", .str s, .str g, .int n]], so, w, pl, some (.str g), some (.int n), e13, some (.str s), e15, e16, ?_, ok, ?_⟩
  · simp only [benv]
    simp only [fseq_, fifS_, fret_, fasg_, fdrop_, fskip_, for__, fand_, fnot_, ftru_, fif_, fbool_, fchain_, fandV_, forV_, fnotV_, fneg_, fcallO_, fapp_, fcons_, fnil_, fcon_, fbin_, ftup_, flst_, fmatch_, fvar0, fvar1, fvar2, fvar3, fvar4, fvar5, fvar6, fvar7, fvar8, fvar9, fvar10, fvar11, fvar12, fvar13, fvar14, bind_ok, bind_stuck, toS_ok, toS_stuck, ofO_some, optS_some, gname_, truD_bl, Bool.not_true, Bool.not_false, Bool.false_eq_true, if_true, if_false, List.cons_append, List.nil_append, List.append_nil, List.set_cons_zero, List.set_cons_succ, endD_rt, endD_nx, ge_int, gt_int, le_int, lt_int, eq_int, add_int, sub_int, int_int, len_tup, isi_non_int, isi_non_bool, isi_non_str, isi_non_tuple, isi_bl_int, isi_bl_bool, isi_bl_str, isi_bl_tuple, isi_int_int, isi_int_bool, isi_int_str, isi_int_tuple, isi_str_int, isi_str_bool, isi_str_str, isi_str_tuple, isi_tup_int, isi_tup_bool, isi_tup_str, isi_tup_tuple, isi_lst_int, isi_lst_bool, isi_lst_str, isi_lst_tuple, fmeth_, t2, List.length_cons, List.length_nil, show (0 + 1 + 1 + 1 + 1 : Nat) ≤ 16777216 by decide, show (0 + 1 + 1 : Nat) ≤ 16777216 by decide, show (0 + 1 + 1 : Nat) = 2 from rfl, a1', q1, q2, gtup_, gcons_, gnil_, gsub_, s1, s2, Option.map_some]
  · refine ⟨put_ok I (put_ok I I.s), ?_, mem_snoc I.f ?_, ?_, I.o, by have := I.ol; omega⟩
    · have := len_put (putKD S (.inr s) (.int (z - n))) (.inr g) (.int (y + n)); omega
    · refine row_mk (by decide +kernel) ?_ (by simp)
      intro y hy
      simp only [List.mem_cons, List.not_mem_nil, or_false] at hy
      rcases hy with rfl | rfl | rfl
      · exact at_str (hn.ok s hs)
      · exact at_str (hn.ok g hg)
      · exact at_int (by omega) (by omega)
    · simp only [List.length_append, List.length_cons, List.length_nil]; omega
end
end DL.P
end
section
namespace DL.P
open PySem L2 PyProof.Rows
section
variable {k L : Nat} {sz menus spots : D} {ns : List Str} {kk : Int} {e9 e10 e11 e12 e13 e14 e15 e16 : Option D} {F : Feed} {R : Store} {M : DO} {S : List (Key × D)} {fo so : List D} {m : Nat}
theorem sell_word (w : Int) (T : List (Option D)) : ∃ b : Bool,
    (fif (fand (for_ (fbool (fbin (cmpD .Eq) (fvar 9) (fcon (.int 6)))) (fbool (fbin (cmpD .Lt) (fvar 5) (fcon (.int 4))))) (fbool (fbin (cmpD .Lt) (fcallO lenD (fcons (fvar 8) fnil)) (fcon (.int 6))))) (fcon (.str "sell")) (fcon (.str "waste"))) (benv R.length sz menus spots ns kk (some (.int w) :: T)) (bst F R M S fo so) = .ok (.str (if b then "sell" else "waste")) (bst F R M S fo so) := by
  have l1 : lenD [.obj (R.length + 4)] (bst F R M S fo so) = some (.int (so.length : Nat), bst F R M S fo so) := o_len g4
  refine ⟨(w == 6 || decide (kk < 4)) && decide ((so.length : Int) < 6), ?_⟩
  simp only [benv]
  cases h1 : (w == 6) <;> cases h2 : decide (kk < 4) <;> cases h3 : decide ((so.length : Int) < 6) <;> simp only [fseq_, fifS_, fret_, fasg_, fdrop_, fskip_, for__, fand_, fnot_, ftru_, fif_, fbool_, fchain_, fandV_, forV_, fnotV_, fneg_, fcallO_, fapp_, fcons_, fnil_, fcon_, fbin_, ftup_, flst_, fmatch_, fvar0, fvar1, fvar2, fvar3, fvar4, fvar5, fvar6, fvar7, fvar8, fvar9, fvar10, fvar11, fvar12, fvar13, fvar14, bind_ok, bind_stuck, toS_ok, toS_stuck, ofO_some, optS_some, gname_, truD_bl, Bool.not_true, Bool.not_false, Bool.false_eq_true, if_true, if_false, List.cons_append, List.nil_append, List.append_nil, List.set_cons_zero, List.set_cons_succ, endD_rt, endD_nx, ge_int, gt_int, le_int, lt_int, eq_int, add_int, sub_int, int_int, len_tup, isi_non_int, isi_non_bool, isi_non_str, isi_non_tuple, isi_bl_int, isi_bl_bool, isi_bl_str, isi_bl_tuple, isi_int_int, isi_int_bool, isi_int_str, isi_int_tuple, isi_str_int, isi_str_bool, isi_str_str, isi_str_tuple, isi_tup_int, isi_tup_bool, isi_tup_str, isi_tup_tuple, isi_lst_int, isi_lst_bool, isi_lst_str, isi_lst_tuple, h1, h2, h3, l1, Bool.or_false, Bool.or_true, Bool.false_or, Bool.true_or, Bool.and_true, Bool.and_false, Bool.false_and, Bool.true_and] <;> rfl
theorem eq_word (b : Bool) (st : Store) : cmpD .Eq (.str (if b then "sell" else "waste")) (.str "sell") st = .ok (.bl b) st := by
  cases b with
  | true =>
    refine (eq_strD false (Str.ofString "sell") (Str.ofString "sell") st (by decide +kernel) (by decide +kernel)).trans ?_
    rw [show (if false then !(Str.ofString "sell" == Str.ofString "sell") else (Str.ofString "sell" == Str.ofString "sell")) = true by decide +kernel]
  | false =>
    refine (eq_strD false (Str.ofString "waste") (Str.ofString "sell") st (by decide +kernel) (by decide +kernel)).trans ?_
    rw [show (if false then !(Str.ofString "waste" == Str.ofString "sell") else (Str.ofString "waste" == Str.ofString "sell")) = false by decide +kernel]
theorem goods1 {x : D} (h : good x = true) : goods [x] = true := by simp only [goods, h, Bool.and_self]
/-- units are sold or wasted -/
theorem way_sell (k : Nat) (n w : Int) (s : Str) (hn : Names ns) (hs : s ∈ ns) (h0 : 0 < n) (hn5 : n ≤ 5) (hk0 : 0 ≤ kk) (hk1 : kk < 10) (I : BInv ns S fo so m) (hm : m ≤ 20) (ok : F.Ok) (pl gl : Option D) :
    Goes k R.length sz menus spots ns kk R M m ((fseq (fdrop (fmeth "list" appendD (fvar 7) (fcons (ftup (fcons (fif (fand (for_ (fbool (fbin (cmpD .Eq) (fvar 9) (fcon (.int 6)))) (fbool (fbin (cmpD .Lt) (fvar 5) (fcon (.int 4))))) (fbool (fbin (cmpD .Lt) (fcallO lenD (fcons (fvar 8) fnil)) (fcon (.int 6))))) (fcon (.str "sell")) (fcon (.str "waste"))) (fcons (fvar 14) (fcons (fvar 12) fnil)))) fnil)))
     (fseq (fdrop (fmeth "list" extendD (fvar 8) (fcons (fif (fbool (fbin (cmpD .Eq) (fbin ixD (fbin ixD (fvar 7) (fneg (fcon (.int 1)))) (fcon (.int 0))) (fcon (.str "sell")))) (flst false (fcons (ftup (fcons (fvar 5) (fcons (fvar 12) fnil))) fnil)) (flst false fnil)) fnil)))
     (fseq (fasg (fbin (binD2 .Sub) (fbin ixD (fvar 6) (fvar 14)) (fvar 12)) (gsub (fvar 6) (fvar 14)))
     fskip))) (benv R.length sz menus spots ns kk [some (.int w), pl, gl, some (.int n), e13, some (.str s), e15, e16]) (bst F R M S fo so)) := by
  obtain ⟨b, hb⟩ := sell_word (R := R) (sz := sz) (menus := menus) (spots := spots) (ns := ns) (kk := kk) (F := F) (M := M) (S := S) (fo := fo) (so := so) w [pl, gl, some (.int n), e13, some (.str s), e15, e16]
  simp only [benv] at hb
  have fl := I.fl
  have ol := I.ol
  have sl := I.sl
  have t2 : tyName (bst F R M S fo so) (.obj (R.length + 3)) = some "list" := o_ty g3
  have a1' : appendD (.obj (R.length + 3)) [.tup [.str (if b then "sell" else "waste"), .str s, .int n]] (bst F R M S fo so) = some (.non, bst F R M S (fo ++ [.tup [.str (if b then "sell" else "waste"), .str s, .int n]]) so) := (o_app g3 (by omega) _).trans (by rw [st3])
  have t3 : tyName (bst F R M S (fo ++ [.tup [.str (if b then "sell" else "waste"), .str s, .int n]]) so) (.obj (R.length + 4)) = some "list" := o_ty g4
  have ix1 : ixD (.obj (R.length + 3)) (.int (-1)) (bst F R M S (fo ++ [.tup [.str (if b then "sell" else "waste"), .str s, .int n]]) so) = .ok (.tup [.str (if b then "sell" else "waste"), .str s, .int n]) _ := o_ix g3 (atI_last _ _)
  have ix2 : ixD (.tup [.str (if b then "sell" else "waste"), .str s, .int n]) (.int 0) (bst F R M S (fo ++ [.tup [.str (if b then "sell" else "waste"), .str s, .int n]]) so) = .ok (.str (if b then "sell" else "waste")) _ := rfl
  have eq1 : cmpD .Eq (.str (if b then "sell" else "waste")) (.str "sell") (bst F R M S (fo ++ [.tup [.str (if b then "sell" else "waste"), .str s, .int n]]) so) = .ok (.bl b) (bst F R M S (fo ++ [.tup [.str (if b then "sell" else "waste"), .str s, .int n]]) so) := by
    exact eq_word b _
  have hext : ∃ so' : List D, (∀ x ∈ so', IsSold x) ∧ so'.length ≤ m + 1 ∧ extendD (.obj (R.length + 4)) [if b then D.lst [.tup [.int kk, .int n]] else .lst []] (bst F R M S (fo ++ [.tup [.str (if b then "sell" else "waste"), .str s, .int n]]) so) = some (.non, bst F R M S (fo ++ [.tup [.str (if b then "sell" else "waste"), .str s, .int n]]) so') := by
    cases b with
    | true =>
      refine ⟨so ++ [.tup [.int kk, .int n]], mem_snoc I.o ⟨kk, n, rfl, hk0, hk1, by omega, by omega⟩, by simp only [List.length_append, List.length_cons, List.length_nil]; omega, ?_⟩
      exact (o_ext g4 (ys := [.tup [.int kk, .int n]]) rfl (by simp only [List.length_cons, List.length_nil]; omega)).trans (by rw [st4])
    | false =>
      refine ⟨so, I.o, by omega, ?_⟩
      exact (o_ext g4 (ys := []) rfl (by simp only [List.length_nil]; omega)).trans (by rw [st4, List.append_nil])
  obtain ⟨so', ho', hl', x1⟩ := hext
  obtain ⟨z, hz⟩ := I.s s hs
  have q1 : ixD (.obj (R.length + 2)) (.str s) (bst F R M S (fo ++ [.tup [.str (if b then "sell" else "waste"), .str s, .int n]]) so') = .ok (.int z) _ := o_ixk g2 hz
  have s1 : setD (.obj (R.length + 2)) (.str s) (.int (z - n)) (bst F R M S (fo ++ [.tup [.str (if b then "sell" else "waste"), .str s, .int n]]) so') = some (bst F R M (putKD S (.inr s) (.int (z - n))) (fo ++ [.tup [.str (if b then "sell" else "waste"), .str s, .int n]]) so') := (o_setk g2 (by omega)).trans (by rw [st2])
  have hrow : IsRow (.tup [.str (if b then "sell" else "waste"), .str s, .int n]) := by
    refine row_mk (by cases b <;> decide +kernel) ?_ (by simp)
    intro y hy
    simp only [List.mem_cons, List.not_mem_nil, or_false] at hy
    rcases hy with rfl | rfl
    · exact at_str (hn.ok s hs)
    · exact at_int (by omega) (by omega)
  refine ⟨F, putKD S (.inr s) (.int (z - n)), fo ++ [.tup [.str (if b then "sell" else "waste"), .str s, .int n]], so', some (.int w), pl, gl, some (.int n), e13, some (.str s), e15, e16, ?_, ok, ?_⟩
  · simp only [benv]
    generalize (fif (fand (for_ (fbool (fbin (cmpD .Eq) (fvar 9) (fcon (.int 6)))) (fbool (fbin (cmpD .Lt) (fvar 5) (fcon (.int 4))))) (fbool (fbin (cmpD .Lt) (fcallO lenD (fcons (fvar 8) fnil)) (fcon (.int 6))))) (fcon (.str "sell")) (fcon (.str "waste"))) = fx at hb ⊢
    cases b with
    | true =>
      simp only [if_true] at *
      simp only [fseq_, fifS_, fret_, fasg_, fdrop_, fskip_, for__, fand_, fnot_, ftru_, fif_, fbool_, fchain_, fandV_, forV_, fnotV_, fneg_, fcallO_, fapp_, fcons_, fnil_, fcon_, fbin_, ftup_, flst_, fmatch_, fvar0, fvar1, fvar2, fvar3, fvar4, fvar5, fvar6, fvar7, fvar8, fvar9, fvar10, fvar11, fvar12, fvar13, fvar14, bind_ok, bind_stuck, toS_ok, toS_stuck, ofO_some, optS_some, gname_, truD_bl, Bool.not_true, Bool.not_false, Bool.false_eq_true, if_true, if_false, List.cons_append, List.nil_append, List.append_nil, List.set_cons_zero, List.set_cons_succ, endD_rt, endD_nx, ge_int, gt_int, le_int, lt_int, eq_int, add_int, sub_int, int_int, len_tup, isi_non_int, isi_non_bool, isi_non_str, isi_non_tuple, isi_bl_int, isi_bl_bool, isi_bl_str, isi_bl_tuple, isi_int_int, isi_int_bool, isi_int_str, isi_int_tuple, isi_str_int, isi_str_bool, isi_str_str, isi_str_tuple, isi_tup_int, isi_tup_bool, isi_tup_str, isi_tup_tuple, isi_lst_int, isi_lst_bool, isi_lst_str, isi_lst_tuple, hb, fmeth_, t2, t3, List.length_cons, List.length_nil, show (0 + 1 + 1 + 1 : Nat) ≤ 16777216 by decide, show (0 + 1 + 1 : Nat) ≤ 16777216 by decide, show (0 + 1 : Nat) ≤ 16777216 by decide, a1', ix1, ix2, eq1, x1, q1, gsub_, s1, Option.map_some]
    | false =>
      simp only [if_false, Bool.false_eq_true] at *
      simp only [fseq_, fifS_, fret_, fasg_, fdrop_, fskip_, for__, fand_, fnot_, ftru_, fif_, fbool_, fchain_, fandV_, forV_, fnotV_, fneg_, fcallO_, fapp_, fcons_, fnil_, fcon_, fbin_, ftup_, flst_, fmatch_, fvar0, fvar1, fvar2, fvar3, fvar4, fvar5, fvar6, fvar7, fvar8, fvar9, fvar10, fvar11, fvar12, fvar13, fvar14, bind_ok, bind_stuck, toS_ok, toS_stuck, ofO_some, optS_some, gname_, truD_bl, Bool.not_true, Bool.not_false, Bool.false_eq_true, if_true, if_false, List.cons_append, List.nil_append, List.append_nil, List.set_cons_zero, List.set_cons_succ, endD_rt, endD_nx, ge_int, gt_int, le_int, lt_int, eq_int, add_int, sub_int, int_int, len_tup, isi_non_int, isi_non_bool, isi_non_str, isi_non_tuple, isi_bl_int, isi_bl_bool, isi_bl_str, isi_bl_tuple, isi_int_int, isi_int_bool, isi_int_str, isi_int_tuple, isi_str_int, isi_str_bool, isi_str_str, isi_str_tuple, isi_tup_int, isi_tup_bool, isi_tup_str, isi_tup_tuple, isi_lst_int, isi_lst_bool, isi_lst_str, isi_lst_tuple, hb, fmeth_, t2, t3, List.length_cons, List.length_nil, show (0 + 1 + 1 + 1 : Nat) ≤ 16777216 by decide, show (0 + 1 + 1 : Nat) ≤ 16777216 by decide, show (0 : Nat) ≤ 16777216 by decide, a1', ix1, ix2, eq1, x1, q1, gsub_, s1, Option.map_some]
  · refine ⟨put_ok I I.s, ?_, mem_snoc I.f hrow, ?_, ho', hl'⟩
    · have := len_put S (.inr s) (.int (z - n)); omega
    · simp only [List.length_append, List.length_cons, List.length_nil]; omega
end
end DL.P
end
section
namespace DL.P
open PySem L2 PyProof.Rows
theorem if_t {c : FF Bool} {a b : FS} {env : Env'} {st : Store} (h : c env st = .ok true st) : fifS c a b env st = a env st := by
  unfold fifS; rw [h]; rfl
theorem if_f {c : FF Bool} {a b : FS} {env : Env'} {st : Store} (h : c env st = .ok false st) : fifS c a b env st = b env st := by
  unfold fifS; rw [h]; rfl
theorem and_b {c d : FF Bool} {env : Env'} {st : Store} {x y : Bool} (h : c env st = .ok x st) (h2 : x = true → d env st = .ok y st) : fand c d env st = .ok (x && y) st := by
  cases x with
  | false => unfold fand; rw [h]; rfl
  | true => unfold fand; rw [h]; exact h2 rfl
section
variable {k L : Nat} {sz menus spots : D} {ns : List Str} {kk : Int} {e9 e10 e11 e12 e13 e14 e15 e16 : Option D} {F : Feed} {R : Store} {M : DO} {S : List (Key × D)} {fo so : List D} {m : Nat}
theorem goes_seq {X : FS} {env : Env'} {st : Store} (h : Goes k L sz menus spots ns kk R M m (X env st)) : Goes k L sz menus spots ns kk R M m (fseq X fskip env st) := by
  obtain ⟨F', S', fo', so', a9, a10, a11, a12, a13, a14, a15, a16, e, r⟩ := h
  refine ⟨F', S', fo', so', a9, a10, a11, a12, a13, a14, a15, a16, ?_, r⟩
  rw [seq_nx e]
  rfl
theorem b7 (k : Nat) (n w : Int) (s g : Str) (hn : Names ns) (hs : s ∈ ns) (hg : g ∈ ns) (hn5 : n ≤ 5) (hk0 : 0 ≤ kk) (hk1 : kk < 10) (I : BInv ns S fo so m) (hm : m ≤ 20) (ok : F.Ok) (pl : Option D) :
    Goes k R.length sz menus spots ns kk R M m (bk7 (k + 1) (benv R.length sz menus spots ns kk [some (.int w), pl, some (.str g), some (.int n), e13, some (.str s), e15, e16]) (bst F R M S fo so)) := by
  obtain ⟨gs, gd⟩ := sold_goods I.o
  have e0 : cmpD .NotEq (.obj (R.length + 4)) (.lst []) (bst F R M S fo so) = .ok (.bl (!so.isEmpty)) (bst F R M S fo so) := o_ne g4 gs (by omega)
  have c1 : (fand (fbool (fbin (cmpD .Eq) (fvar 9) (fcon (.int 8)))) (fbool (fbin (cmpD .NotEq) (fvar 8) (flst false fnil)))) (benv R.length sz menus spots ns kk [some (.int w), pl, some (.str g), some (.int n), e13, some (.str s), e15, e16]) (bst F R M S fo so) = .ok ((w == 8) && !so.isEmpty) (bst F R M S fo so) := by
    refine and_b ?_ fun _ => ?_
    · simp only [benv]; simp only [fseq_, fifS_, fret_, fasg_, fdrop_, fskip_, for__, fand_, fnot_, ftru_, fif_, fbool_, fchain_, fandV_, forV_, fnotV_, fneg_, fcallO_, fapp_, fcons_, fnil_, fcon_, fbin_, ftup_, flst_, fmatch_, fvar0, fvar1, fvar2, fvar3, fvar4, fvar5, fvar6, fvar7, fvar8, fvar9, fvar10, fvar11, fvar12, fvar13, fvar14, bind_ok, bind_stuck, toS_ok, toS_stuck, ofO_some, optS_some, gname_, truD_bl, Bool.not_true, Bool.not_false, Bool.false_eq_true, if_true, if_false, List.cons_append, List.nil_append, List.append_nil, List.set_cons_zero, List.set_cons_succ, endD_rt, endD_nx, ge_int, gt_int, le_int, lt_int, eq_int, add_int, sub_int, int_int, len_tup, isi_non_int, isi_non_bool, isi_non_str, isi_non_tuple, isi_bl_int, isi_bl_bool, isi_bl_str, isi_bl_tuple, isi_int_int, isi_int_bool, isi_int_str, isi_int_tuple, isi_str_int, isi_str_bool, isi_str_str, isi_str_tuple, isi_tup_int, isi_tup_bool, isi_tup_str, isi_tup_tuple, isi_lst_int, isi_lst_bool, isi_lst_str, isi_lst_tuple, ]
    · simp only [benv]; simp only [fseq_, fifS_, fret_, fasg_, fdrop_, fskip_, for__, fand_, fnot_, ftru_, fif_, fbool_, fchain_, fandV_, forV_, fnotV_, fneg_, fcallO_, fapp_, fcons_, fnil_, fcon_, fbin_, ftup_, flst_, fmatch_, fvar0, fvar1, fvar2, fvar3, fvar4, fvar5, fvar6, fvar7, fvar8, fvar9, fvar10, fvar11, fvar12, fvar13, fvar14, bind_ok, bind_stuck, toS_ok, toS_stuck, ofO_some, optS_some, gname_, truD_bl, Bool.not_true, Bool.not_false, Bool.false_eq_true, if_true, if_false, List.cons_append, List.nil_append, List.append_nil, List.set_cons_zero, List.set_cons_succ, endD_rt, endD_nx, ge_int, gt_int, le_int, lt_int, eq_int, add_int, sub_int, int_int, len_tup, isi_non_int, isi_non_bool, isi_non_str, isi_non_tuple, isi_bl_int, isi_bl_bool, isi_bl_str, isi_bl_tuple, isi_int_int, isi_int_bool, isi_int_str, isi_int_tuple, isi_str_int, isi_str_bool, isi_str_str, isi_str_tuple, isi_tup_int, isi_tup_bool, isi_tup_str, isi_tup_tuple, isi_lst_int, isi_lst_bool, isi_lst_str, isi_lst_tuple, e0, List.length_nil, Nat.zero_le]
  by_cases h1 : w = 8 ∧ so.isEmpty = false
  · obtain ⟨rfl, h2⟩ := h1
    exact way_back k 8 n s g hn hs I hm ok h2 pl
  have c1f : ((w == 8) && !so.isEmpty) = false := by
    cases ha : (w == 8) with
    | false => rfl
    | true =>
      cases hb : so.isEmpty with
      | true => rfl
      | false => exact absurd ⟨by simpa using ha, hb⟩ h1
  rw [c1f] at c1
  unfold bk7
  rw [if_f c1]
  refine goes_seq ?_
  obtain ⟨i1, h1⟩ := in_bl w [3, 4, 5] (bst F R M S fo so) trivial
  obtain ⟨i2, h2⟩ := in_bl w [6, 7] (bst F R M S fo so) trivial
  obtain ⟨i3, h3⟩ := ne_strs (hn.ok g hg).1 (hn.ok s hs).1 (bst F R M S fo so)
  simp only [List.map_cons, List.map_nil] at h1 h2
  have c2 : (fand (fbool (fbin (cmpD .In) (fvar 9) (ftup (fcons (fcon (.int 3)) (fcons (fcon (.int 4)) (fcons (fcon (.int 5)) fnil)))))) (fand (fbool (fbin (cmpD .Gt) (fvar 12) (fcon (.int 0)))) (fbool (fbin (cmpD .NotEq) (fvar 11) (fvar 14))))) (benv R.length sz menus spots ns kk [some (.int w), pl, some (.str g), some (.int n), e13, some (.str s), e15, e16]) (bst F R M S fo so) = .ok (i1 && (decide (0 < n) && i3)) (bst F R M S fo so) := by
    refine and_b ?_ fun _ => and_b ?_ fun _ => ?_
    · simp only [benv]; simp only [fseq_, fifS_, fret_, fasg_, fdrop_, fskip_, for__, fand_, fnot_, ftru_, fif_, fbool_, fchain_, fandV_, forV_, fnotV_, fneg_, fcallO_, fapp_, fcons_, fnil_, fcon_, fbin_, ftup_, flst_, fmatch_, fvar0, fvar1, fvar2, fvar3, fvar4, fvar5, fvar6, fvar7, fvar8, fvar9, fvar10, fvar11, fvar12, fvar13, fvar14, bind_ok, bind_stuck, toS_ok, toS_stuck, ofO_some, optS_some, gname_, truD_bl, Bool.not_true, Bool.not_false, Bool.false_eq_true, if_true, if_false, List.cons_append, List.nil_append, List.append_nil, List.set_cons_zero, List.set_cons_succ, endD_rt, endD_nx, ge_int, gt_int, le_int, lt_int, eq_int, add_int, sub_int, int_int, len_tup, isi_non_int, isi_non_bool, isi_non_str, isi_non_tuple, isi_bl_int, isi_bl_bool, isi_bl_str, isi_bl_tuple, isi_int_int, isi_int_bool, isi_int_str, isi_int_tuple, isi_str_int, isi_str_bool, isi_str_str, isi_str_tuple, isi_tup_int, isi_tup_bool, isi_tup_str, isi_tup_tuple, isi_lst_int, isi_lst_bool, isi_lst_str, isi_lst_tuple, List.length_cons, List.length_nil, show (0 + 1 + 1 + 1 : Nat) ≤ 16777216 by decide, h1]
    · simp only [benv]; simp only [fseq_, fifS_, fret_, fasg_, fdrop_, fskip_, for__, fand_, fnot_, ftru_, fif_, fbool_, fchain_, fandV_, forV_, fnotV_, fneg_, fcallO_, fapp_, fcons_, fnil_, fcon_, fbin_, ftup_, flst_, fmatch_, fvar0, fvar1, fvar2, fvar3, fvar4, fvar5, fvar6, fvar7, fvar8, fvar9, fvar10, fvar11, fvar12, fvar13, fvar14, bind_ok, bind_stuck, toS_ok, toS_stuck, ofO_some, optS_some, gname_, truD_bl, Bool.not_true, Bool.not_false, Bool.false_eq_true, if_true, if_false, List.cons_append, List.nil_append, List.append_nil, List.set_cons_zero, List.set_cons_succ, endD_rt, endD_nx, ge_int, gt_int, le_int, lt_int, eq_int, add_int, sub_int, int_int, len_tup, isi_non_int, isi_non_bool, isi_non_str, isi_non_tuple, isi_bl_int, isi_bl_bool, isi_bl_str, isi_bl_tuple, isi_int_int, isi_int_bool, isi_int_str, isi_int_tuple, isi_str_int, isi_str_bool, isi_str_str, isi_str_tuple, isi_tup_int, isi_tup_bool, isi_tup_str, isi_tup_tuple, isi_lst_int, isi_lst_bool, isi_lst_str, isi_lst_tuple, ]
    · simp only [benv]; simp only [fseq_, fifS_, fret_, fasg_, fdrop_, fskip_, for__, fand_, fnot_, ftru_, fif_, fbool_, fchain_, fandV_, forV_, fnotV_, fneg_, fcallO_, fapp_, fcons_, fnil_, fcon_, fbin_, ftup_, flst_, fmatch_, fvar0, fvar1, fvar2, fvar3, fvar4, fvar5, fvar6, fvar7, fvar8, fvar9, fvar10, fvar11, fvar12, fvar13, fvar14, bind_ok, bind_stuck, toS_ok, toS_stuck, ofO_some, optS_some, gname_, truD_bl, Bool.not_true, Bool.not_false, Bool.false_eq_true, if_true, if_false, List.cons_append, List.nil_append, List.append_nil, List.set_cons_zero, List.set_cons_succ, endD_rt, endD_nx, ge_int, gt_int, le_int, lt_int, eq_int, add_int, sub_int, int_int, len_tup, isi_non_int, isi_non_bool, isi_non_str, isi_non_tuple, isi_bl_int, isi_bl_bool, isi_bl_str, isi_bl_tuple, isi_int_int, isi_int_bool, isi_int_str, isi_int_tuple, isi_str_int, isi_str_bool, isi_str_str, isi_str_tuple, isi_tup_int, isi_tup_bool, isi_tup_str, isi_tup_tuple, isi_lst_int, isi_lst_bool, isi_lst_str, isi_lst_tuple, h3]
  by_cases hc2 : (i1 && (decide (0 < n) && i3)) = true
  · rw [hc2] at c2
    rw [if_t c2]
    simp only [Bool.and_eq_true, decide_eq_true_eq] at hc2
    exact way_move k n _ s g hn hs hg hc2.2.1 hn5 I hm ok pl
  rw [Bool.eq_false_iff.mpr hc2] at c2
  rw [if_f c2]
  refine goes_seq ?_
  have c3 : (fand (fbool (fbin (cmpD .In) (fvar 9) (ftup (fcons (fcon (.int 6)) (fcons (fcon (.int 7)) fnil))))) (fbool (fbin (cmpD .Gt) (fvar 12) (fcon (.int 0))))) (benv R.length sz menus spots ns kk [some (.int w), pl, some (.str g), some (.int n), e13, some (.str s), e15, e16]) (bst F R M S fo so) = .ok (i2 && decide (0 < n)) (bst F R M S fo so) := by
    refine and_b ?_ fun _ => ?_
    · simp only [benv]; simp only [fseq_, fifS_, fret_, fasg_, fdrop_, fskip_, for__, fand_, fnot_, ftru_, fif_, fbool_, fchain_, fandV_, forV_, fnotV_, fneg_, fcallO_, fapp_, fcons_, fnil_, fcon_, fbin_, ftup_, flst_, fmatch_, fvar0, fvar1, fvar2, fvar3, fvar4, fvar5, fvar6, fvar7, fvar8, fvar9, fvar10, fvar11, fvar12, fvar13, fvar14, bind_ok, bind_stuck, toS_ok, toS_stuck, ofO_some, optS_some, gname_, truD_bl, Bool.not_true, Bool.not_false, Bool.false_eq_true, if_true, if_false, List.cons_append, List.nil_append, List.append_nil, List.set_cons_zero, List.set_cons_succ, endD_rt, endD_nx, ge_int, gt_int, le_int, lt_int, eq_int, add_int, sub_int, int_int, len_tup, isi_non_int, isi_non_bool, isi_non_str, isi_non_tuple, isi_bl_int, isi_bl_bool, isi_bl_str, isi_bl_tuple, isi_int_int, isi_int_bool, isi_int_str, isi_int_tuple, isi_str_int, isi_str_bool, isi_str_str, isi_str_tuple, isi_tup_int, isi_tup_bool, isi_tup_str, isi_tup_tuple, isi_lst_int, isi_lst_bool, isi_lst_str, isi_lst_tuple, List.length_cons, List.length_nil, show (0 + 1 + 1 : Nat) ≤ 16777216 by decide, h2]
    · simp only [benv]; simp only [fseq_, fifS_, fret_, fasg_, fdrop_, fskip_, for__, fand_, fnot_, ftru_, fif_, fbool_, fchain_, fandV_, forV_, fnotV_, fneg_, fcallO_, fapp_, fcons_, fnil_, fcon_, fbin_, ftup_, flst_, fmatch_, fvar0, fvar1, fvar2, fvar3, fvar4, fvar5, fvar6, fvar7, fvar8, fvar9, fvar10, fvar11, fvar12, fvar13, fvar14, bind_ok, bind_stuck, toS_ok, toS_stuck, ofO_some, optS_some, gname_, truD_bl, Bool.not_true, Bool.not_false, Bool.false_eq_true, if_true, if_false, List.cons_append, List.nil_append, List.append_nil, List.set_cons_zero, List.set_cons_succ, endD_rt, endD_nx, ge_int, gt_int, le_int, lt_int, eq_int, add_int, sub_int, int_int, len_tup, isi_non_int, isi_non_bool, isi_non_str, isi_non_tuple, isi_bl_int, isi_bl_bool, isi_bl_str, isi_bl_tuple, isi_int_int, isi_int_bool, isi_int_str, isi_int_tuple, isi_str_int, isi_str_bool, isi_str_str, isi_str_tuple, isi_tup_int, isi_tup_bool, isi_tup_str, isi_tup_tuple, isi_lst_int, isi_lst_bool, isi_lst_str, isi_lst_tuple, ]
  by_cases hc3 : (i2 && decide (0 < n)) = true
  · rw [hc3] at c3
    rw [if_t c3]
    simp only [Bool.and_eq_true, decide_eq_true_eq] at hc3
    exact way_sell k n w s hn hs hc3.2 hn5 hk0 hk1 I hm ok pl _
  rw [Bool.eq_false_iff.mpr hc3] at c3
  rw [if_f c3]
  exact way_come k n _ s hn hs hn5 I hm ok pl _
/-- one turn of the book's loop -/
theorem b_all (k : Nat) (hn : Names ns) (hk0 : 0 ≤ kk) (hk1 : kk < 10) (I : BInv ns S fo so m) (hm : m ≤ 20) (ok : F.Ok) :
    Goes k R.length sz menus spots ns kk R M m (bk_body (k + 1) (benv R.length sz menus spots ns kk [e9, e10, e11, e12, e13, e14, e15, e16]) (bst F R M S fo so)) := by
  unfold bk_body
  obtain ⟨F1, w, q1, ok1, w0, w1⟩ := b1 (L := R.length) (sz := sz) (menus := menus) (spots := spots) (ns := ns) (kk := kk) (e9 := e9) (e10 := e10) (e11 := e11) (e12 := e12) (e13 := e13) (e14 := e14) (e15 := e15) (e16 := e16) k ok (R ++ [M, .dk S, .lst fo, .lst so])
  rw [seq_nx q1]
  obtain ⟨pl, p1, q2⟩ := b2 (sz := sz) (menus := menus) (spots := spots) (kk := kk) (F := F1) (R := R) (M := M) (e10 := e10) (e11 := e11) (e12 := e12) (e13 := e13) (e14 := e14) (e15 := e15) (e16 := e16) (k + 1) w hn I
  rw [seq_nx q2]
  obtain ⟨pl2, p2, p3, p4, q3⟩ := b3 (L := R.length) (sz := sz) (menus := menus) (spots := spots) (kk := kk) (e11 := e11) (e12 := e12) (e13 := e13) (e14 := e14) (e15 := e15) (e16 := e16) (k + 1) w hn pl p1.1 p1.2 (bst F1 R M S fo so)
  rw [seq_nx q3]
  obtain ⟨F2, s, n, q4, ok2, hs, n0, n1⟩ := b4 (L := R.length) (sz := sz) (menus := menus) (spots := spots) (kk := kk) (e11 := e11) (e12 := e12) (e13 := e13) (e14 := e14) (e15 := e15) (e16 := e16) k ok1 w hn pl2 p2 p3 p4 (R ++ [M, .dk S, .lst fo, .lst so])
  rw [seq_nx q4]
  obtain ⟨F3, g, q5, ok3, hg⟩ := b5 (L := R.length) (sz := sz) (menus := menus) (spots := spots) (kk := kk) (e11 := e11) (e12 := some (.int n)) (e13 := e13) (e15 := e15) (e16 := e16) k ok2 w hn (some (.lst (pl2.map D.str))) s hs (R ++ [M, .dk S, .lst fo, .lst so])
  rw [seq_nx q5]
  obtain ⟨n', n2, q6⟩ := b6 (sz := sz) (menus := menus) (spots := spots) (kk := kk) (F := F3) (R := R) (M := M) (e13 := e13) (e15 := e15) (e16 := e16) (k + 1) w n s hs n1 I (some (.lst (pl2.map D.str))) (some (.str g))
  rw [seq_nx q6]
  exact goes_seq (b7 k n' w s g hn hs hg n2 hk0 hk1 I hm ok3 _)
end
end DL.P
end
section
namespace DL.P
open PySem L2 PyProof.Rows
def menuD (m : List (Str × Str)) : D := .tup (m.map fun p => .tup [.str p.1, .str p.2])
structure MenuOk (m : List (Str × Str)) : Prop where
  ok : ∀ p ∈ m, (PyData.strOk p.1 = true ∧ p.1.length ≤ 5) ∧ (PyData.strOk p.2 = true ∧ p.2.length ≤ 5)
  ne : m ≠ []
  le : m.length ≤ 4
def mnA : List (List (Str × Str)) := [[(("line" : Str), ("pipe" : Str)), (("tank" : Str), ("heap" : Str))], [(("a" : Str), ("pipe" : Str)), (("few" : Str), ("heap" : Str)), (("move" : Str), ("pipe" : Str))], [(("b" : Str), ("heap" : Str))]]
def mnB : List (List (Str × Str)) := [[(("p" : Str), ("pipe" : Str)), (("q" : Str), ("pipe" : Str))], [(("a" : Str), ("heap" : Str)), (("b" : Str), ("pipe" : Str)), (("c" : Str), ("heap" : Str)), (("d" : Str), ("pipe" : Str))]]
def menuOk (m : List (Str × Str)) : Bool := (m.all fun p => (PyData.strOk p.1 && decide (p.1.length ≤ 5)) && (PyData.strOk p.2 && decide (p.2.length ≤ 5))) && !m.isEmpty && decide (m.length ≤ 4)
theorem mn_ok : ∀ m ∈ mnA ++ mnB, MenuOk m := by
  have h : (mnA ++ mnB).all menuOk = true := by decide +kernel
  intro m hm
  have h1 := List.all_eq_true.mp h m hm
  simp only [menuOk, Bool.and_eq_true, decide_eq_true_eq, List.all_eq_true] at h1
  obtain ⟨⟨h1, h2⟩, h3⟩ := h1
  exact ⟨h1, by intro z; subst z; simp at h2, h3⟩
theorem MenuOk.names {m : List (Str × Str)} (h : MenuOk m) : Names (m.map (·.1)) := by
  refine ⟨fun x hx => ?_, by simpa using h.ne, by simpa using h.le⟩
  obtain ⟨p, hp, rfl⟩ := List.mem_map.mp hx
  exact (h.ok p hp).1
theorem MenuOk.sz {m : List (Str × Str)} (h : MenuOk m) : ∀ x ∈ m.map (fun p => D.tup [.str p.1, .str p.2]), Sb 10 x 200 1 := by
  intro x hx
  obtain ⟨p, hp, rfl⟩ := List.mem_map.mp hx
  obtain ⟨⟨a1, a2⟩, ⟨a3, a4⟩⟩ := h.ok p hp
  have e : ∀ a ∈ [D.str p.1, D.str p.2], isAtom a = true := by
    intro a ha
    simp only [List.mem_cons, List.not_mem_nil, or_false] at ha
    rcases ha with rfl | rfl
    · exact at_str ⟨a1, a2⟩
    · exact at_str ⟨a3, a4⟩
  obtain ⟨s1, s2, s3⟩ := atoms_sz e
  refine ⟨s1, ?_, ?_⟩
  · show 5 + wts [D.str p.1, D.str p.2] ≤ 200
    simp only [List.length_cons, List.length_nil] at s2
    omega
  · show dps [D.str p.1, D.str p.2] + 1 ≤ 1
    omega
theorem filter_all {α : Type} (l : List α) : l.filter (fun _ => true) = l := by simp
theorem lc_tup {tt : FF Bool} {te : FF D} {fe : FF D} {env : Env'} {st : Store} {xs : List D} {i : Nat} {p : D → Bool} {g : D → D} (h0 : fe env st = .ok (.tup xs) st) (hl : xs.length ≤ 16777216)
    (h : ∀ x ∈ xs, ∀ env1, env1 = (env.set i none).set i (some x) → tt env1 st = .ok (p x) st ∧ (p x = true → te env1 st = .ok (g x) st)) :
    flc false (fitems fe) (.one i) tt te [i] env st = .ok (.lst ((xs.filter p).map g)) st := by
  unfold flc fitems
  rw [h0]
  simp only [bind_ok, itemsD, seqL, Option.map_some]
  rw [lcL_pure (p := p) (g := g) rfl _ [] (fun d hd => ⟨_, rfl, h d hd _ rfl⟩) (by simpa using hl)]
  simp
/-- the stock before the first row -/
def stock0 (ns : List Str) : List (Key × D) := mergeD [] (ns.map fun s => (.inr s, .int 0))
theorem pairs_ns (ns : List Str) : pairsD (ns.map fun s => D.tup [.str s, .int 0]) = some (ns.map fun s => (.inr s, .int 0)) := by
  induction ns with
  | nil => rfl
  | cons a r ih =>
    simp only [List.map_cons, pairsD, ih]
    rfl
theorem merge_zero : ∀ (ns : List Str) (kvs : List (Key × D)), (∀ x : Str, getK kvs (.inr x) = none ∨ getK kvs (.inr x) = some (.int 0)) →
    ((mergeD kvs (ns.map fun s => (.inr s, .int 0))).length ≤ kvs.length + ns.length) ∧ (∀ x : Str, (x ∈ ns ∨ getK kvs (.inr x) = some (.int 0)) → getK (mergeD kvs (ns.map fun s => (.inr s, .int 0))) (.inr x) = some (.int 0))
  | [], kvs, h => ⟨Nat.le_refl _, fun x hx => by
      rcases hx with hx | hx
      · cases hx
      · exact hx⟩
  | a :: r, kvs, h => by
    have h' : ∀ x : Str, getK (putKD kvs (.inr a) (.int 0)) (.inr x) = none ∨ getK (putKD kvs (.inr a) (.int 0)) (.inr x) = some (.int 0) := by
      intro x
      rw [getK_put]
      split
      · exact .inr rfl
      · exact h x
    obtain ⟨l1, l2⟩ := merge_zero r (putKD kvs (.inr a) (.int 0)) h'
    have lp := len_put kvs (.inr a) (.int 0)
    have e : mergeD kvs ((a :: r).map fun s => (.inr s, .int 0)) = mergeD (putKD kvs (.inr a) (.int 0)) (r.map fun s => (.inr s, .int 0)) := rfl
    rw [e]
    refine ⟨by simp only [List.length_cons]; omega, fun x hx => l2 x ?_⟩
    rw [getK_put]
    by_cases hxa : x = a
    · subst hxa
      exact .inr (by rw [if_pos rfl])
    · rcases hx with hx | hx
      · rcases List.mem_cons.mp hx with hx | hx
        · exact absurd hx hxa
        · exact .inl hx
      · right
        rw [if_neg (by intro z; cases z; exact hxa rfl)]
        exact hx
theorem binv0 {ns : List Str} (hn : Names ns) : BInv ns (stock0 ns) [] [] 0 := by
  obtain ⟨l1, l2⟩ := merge_zero ns [] (fun x => .inl rfl)
  have := hn.le
  refine ⟨fun x hx => ⟨0, l2 x (.inl hx)⟩, ?_, (fun x hx => by cases hx), Nat.le_refl _, (fun x hx => by cases hx), Nat.le_refl _⟩
  simp only [List.length_nil] at l1
  unfold stock0
  omega
section
variable {k : Nat} {sz : D} {F : Feed} {R : Store} {o5 : Option D} {T : List (Option D)}
theorem h1 (k : Nat) (e2 : Option D) (st : Store) : bh1 k (some (.obj 0) :: some sz :: e2 :: T) st = .nx (some (.obj 0) :: some sz :: some (.obj st.length) :: T) (st ++ [.lst (mnA.map menuD)]) := by
  simp only [bh1]
  simp only [fseq_, fifS_, fret_, fasg_, fdrop_, fskip_, for__, fand_, fnot_, ftru_, fif_, fbool_, fchain_, fandV_, forV_, fnotV_, fneg_, fcallO_, fapp_, fcons_, fnil_, fcon_, fbin_, ftup_, flst_, fmatch_, fvar0, fvar1, fvar2, fvar3, fvar4, fvar5, fvar6, fvar7, fvar8, fvar9, fvar10, fvar11, fvar12, fvar13, fvar14, bind_ok, bind_stuck, toS_ok, toS_stuck, ofO_some, optS_some, gname_, truD_bl, Bool.not_true, Bool.not_false, Bool.false_eq_true, if_true, if_false, List.cons_append, List.nil_append, List.append_nil, List.set_cons_zero, List.set_cons_succ, endD_rt, endD_nx, ge_int, gt_int, le_int, lt_int, eq_int, add_int, sub_int, int_int, len_tup, isi_non_int, isi_non_bool, isi_non_str, isi_non_tuple, isi_bl_int, isi_bl_bool, isi_bl_str, isi_bl_tuple, isi_int_int, isi_int_bool, isi_int_str, isi_int_tuple, isi_str_int, isi_str_bool, isi_str_str, isi_str_tuple, isi_tup_int, isi_tup_bool, isi_tup_str, isi_tup_tuple, isi_lst_int, isi_lst_bool, isi_lst_str, isi_lst_tuple, List.length_cons, List.length_nil, show (0 + 1 + 1 + 1 : Nat) ≤ 16777216 by decide, show (0 + 1 + 1 : Nat) ≤ 16777216 by decide, show (0 + 1 : Nat) ≤ 16777216 by decide]
  rfl
theorem h2 (k : Nat) (F : Feed) (R : Store) : bh2 k (some (.obj 0) :: some sz :: some (.obj (R.length + 1)) :: T) (F.o :: (R ++ [.lst (mnA.map menuD)])) = .nx (some (.obj 0) :: some sz :: some (.obj (R.length + 1)) :: T) (F.o :: (R ++ [.lst ((mnA ++ mnB).map menuD)])) := by
  have t2 : tyName (F.o :: (R ++ [.lst (mnA.map menuD)])) (.obj (R.length + 1)) = some "list" := o_ty g1
  have x := (o_ext (st := F.o :: (R ++ [.lst (mnA.map menuD)])) (n := R.length + 1) g1 (ys := mnB.map menuD) (y := .lst (mnB.map menuD)) rfl (by decide)).trans (by rw [st1, ← List.map_append])
  simp only [mnB, menuD, List.map_cons, List.map_nil] at x
  simp only [bh2]
  simp only [fseq_, fifS_, fret_, fasg_, fdrop_, fskip_, for__, fand_, fnot_, ftru_, fif_, fbool_, fchain_, fandV_, forV_, fnotV_, fneg_, fcallO_, fapp_, fcons_, fnil_, fcon_, fbin_, ftup_, flst_, fmatch_, fvar0, fvar1, fvar2, fvar3, fvar4, fvar5, fvar6, fvar7, fvar8, fvar9, fvar10, fvar11, fvar12, fvar13, fvar14, bind_ok, bind_stuck, toS_ok, toS_stuck, ofO_some, optS_some, gname_, truD_bl, Bool.not_true, Bool.not_false, Bool.false_eq_true, if_true, if_false, List.cons_append, List.nil_append, List.append_nil, List.set_cons_zero, List.set_cons_succ, endD_rt, endD_nx, ge_int, gt_int, le_int, lt_int, eq_int, add_int, sub_int, int_int, len_tup, isi_non_int, isi_non_bool, isi_non_str, isi_non_tuple, isi_bl_int, isi_bl_bool, isi_bl_str, isi_bl_tuple, isi_int_int, isi_int_bool, isi_int_str, isi_int_tuple, isi_str_int, isi_str_bool, isi_str_str, isi_str_tuple, isi_tup_int, isi_tup_bool, isi_tup_str, isi_tup_tuple, isi_lst_int, isi_lst_bool, isi_lst_str, isi_lst_tuple, List.length_cons, List.length_nil, show (0 + 1 + 1 + 1 + 1 : Nat) ≤ 16777216 by decide, show (0 + 1 + 1 : Nat) ≤ 16777216 by decide, show (0 + 1 : Nat) ≤ 16777216 by decide, fmeth_, t2, x]
  rfl
theorem h3 (k : Nat) (ok : F.Ok) (e3 : Option D) (R : Store) : ∃ (F' : Feed) (m : List (Str × Str)), bh3 (k + 1) (some (.obj 0) :: some sz :: some (.obj (R.length + 1)) :: e3 :: T) (F.o :: (R ++ [.lst ((mnA ++ mnB).map menuD)])) = .nx (some (.obj 0) :: some sz :: some (.obj (R.length + 1)) :: some (menuD m) :: T) (F'.o :: (R ++ [.lst ((mnA ++ mnB).map menuD)])) ∧ F'.Ok ∧ MenuOk m := by
  obtain ⟨F1, d, e, d0, d1, ok1⟩ := s_draw k 5 (by decide) (by decide) F ok (R ++ [.lst ((mnA ++ mnB).map menuD)])
  have e1 : cl (k + 1) fe__law_draw [0, 1] [.obj 0, .int 5] (F.o :: (R ++ [.lst ((mnA ++ mnB).map menuD)])) = some (.int d, F1.o :: (R ++ [.lst ((mnA ++ mnB).map menuD)])) := e
  obtain ⟨v, hv, hi⟩ := atI_mem (xs := (mnA ++ mnB).map menuD) d0 (by show d < ((5 : Nat) : Int); omega)
  obtain ⟨m, hm, rfl⟩ := List.mem_map.mp hv
  have q : ixD (.obj (R.length + 1)) (.int d) (F1.o :: (R ++ [.lst ((mnA ++ mnB).map menuD)])) = .ok (menuD m) _ := o_ix g1 hi
  refine ⟨F1, m, ?_, ok1, mn_ok m hm⟩
  simp only [bh3]
  simp only [fseq_, fifS_, fret_, fasg_, fdrop_, fskip_, for__, fand_, fnot_, ftru_, fif_, fbool_, fchain_, fandV_, forV_, fnotV_, fneg_, fcallO_, fapp_, fcons_, fnil_, fcon_, fbin_, ftup_, flst_, fmatch_, fvar0, fvar1, fvar2, fvar3, fvar4, fvar5, fvar6, fvar7, fvar8, fvar9, fvar10, fvar11, fvar12, fvar13, fvar14, bind_ok, bind_stuck, toS_ok, toS_stuck, ofO_some, optS_some, gname_, truD_bl, Bool.not_true, Bool.not_false, Bool.false_eq_true, if_true, if_false, List.cons_append, List.nil_append, List.append_nil, List.set_cons_zero, List.set_cons_succ, endD_rt, endD_nx, ge_int, gt_int, le_int, lt_int, eq_int, add_int, sub_int, int_int, len_tup, isi_non_int, isi_non_bool, isi_non_str, isi_non_tuple, isi_bl_int, isi_bl_bool, isi_bl_str, isi_bl_tuple, isi_int_int, isi_int_bool, isi_int_str, isi_int_tuple, isi_str_int, isi_str_bool, isi_str_str, isi_str_tuple, isi_tup_int, isi_tup_bool, isi_tup_str, isi_tup_tuple, isi_lst_int, isi_lst_bool, isi_lst_str, isi_lst_tuple, e1, q]
theorem h4 (k : Nat) {m : List (Str × Str)} (hm : MenuOk m) (mo : D) (st : Store) : bh4 k [some (.obj 0), some sz, some mo, some (menuD m), none, none, none, none, none, none, none, none, none, none, none, none, none] st = .nx [some (.obj 0), some sz, some mo, some (menuD m), some (.lst ((m.map (·.1)).map D.str)), none, none, none, none, none, none, none, none, none, none, none, none] st := by
  have q := lc_tup (tt := ftrue) (te := fbin ixD (fvar 13) (fcon (.int 0))) (fe := fvar 3) (env := [some (.obj 0), some sz, some mo, some (menuD m), none, none, none, none, none, none, none, none, none, none, none, none, none]) (st := st) (xs := m.map fun p => .tup [.str p.1, .str p.2]) (i := 13)
    (p := fun _ => true) (g := fun d => match d with | .tup (a :: _) => a | _ => .non) rfl (by have := hm.le; simp; omega) (fun x hx env1 he => by
      obtain ⟨p, hp, rfl⟩ := List.mem_map.mp hx
      subst he
      exact ⟨rfl, fun _ => rfl⟩)
  rw [filter_all, List.map_map] at q
  simp only [bh4]
  simp only [fseq_, fifS_, fret_, fasg_, fdrop_, fskip_, for__, fand_, fnot_, ftru_, fif_, fbool_, fchain_, fandV_, forV_, fnotV_, fneg_, fcallO_, fapp_, fcons_, fnil_, fcon_, fbin_, ftup_, flst_, fmatch_, fvar0, fvar1, fvar2, fvar3, fvar4, fvar5, fvar6, fvar7, fvar8, fvar9, fvar10, fvar11, fvar12, fvar13, fvar14, bind_ok, bind_stuck, toS_ok, toS_stuck, ofO_some, optS_some, gname_, truD_bl, Bool.not_true, Bool.not_false, Bool.false_eq_true, if_true, if_false, List.cons_append, List.nil_append, List.append_nil, List.set_cons_zero, List.set_cons_succ, endD_rt, endD_nx, ge_int, gt_int, le_int, lt_int, eq_int, add_int, sub_int, int_int, len_tup, isi_non_int, isi_non_bool, isi_non_str, isi_non_tuple, isi_bl_int, isi_bl_bool, isi_bl_str, isi_bl_tuple, isi_int_int, isi_int_bool, isi_int_str, isi_int_tuple, isi_str_int, isi_str_bool, isi_str_str, isi_str_tuple, isi_tup_int, isi_tup_bool, isi_tup_str, isi_tup_tuple, isi_lst_int, isi_lst_bool, isi_lst_str, isi_lst_tuple, q]
  rw [List.map_map]
  rfl
theorem h5 (k : Nat) {m : List (Str × Str)} (hm : MenuOk m) (mo : D) (F : Feed) (R : Store) (M : DO) : bh5 k [some (.obj 0), some sz, some mo, some (menuD m), some (.lst ((m.map (·.1)).map D.str)), none, none, none, none, none, none, none, none, none, none, none, none] (F.o :: (R ++ [M])) = .nx [some (.obj 0), some sz, some mo, some (menuD m), some (.lst ((m.map (·.1)).map D.str)), none, some (.obj (R.length + 2)), some (.obj (R.length + 3)), some (.obj (R.length + 4)), none, none, none, none, none, none, none, none] (F.o :: (R ++ [M, .dk (stock0 (m.map (·.1))), .lst [], .lst []])) := by
  have q := lc_lst (tt := ftrue) (te := ftup (fcons (fvar 16) (fcons (fcon (.int 0)) fnil))) (fe := fvar 4) (env := [some (.obj 0), some sz, some mo, some (menuD m), some (.lst ((m.map (·.1)).map D.str)), none, none, none, none, none, none, none, none, none, none, none, none]) (st := F.o :: (R ++ [M])) (xs := (m.map (·.1)).map D.str) (i := 16)
    (p := fun _ => true) (g := fun d => .tup [d, .int 0]) rfl (by have := hm.le; simp; omega) (fun x hx env1 he => by
      subst he
      exact ⟨rfl, fun _ => rfl⟩)
  rw [filter_all] at q
  generalize hns : m.map (·.1) = ns at q ⊢
  have d1 : dictD [.lst ((ns.map D.str).map fun d => .tup [d, .int 0])] (F.o :: (R ++ [M])) = some (.obj (R.length + 2), F.o :: (R ++ [M, .dk (stock0 ns)])) := by
    unfold dictD
    simp only [seqL, Option.bind_some]
    rw [List.map_map]
    have e := pairs_ns ns
    simp only [Function.comp_def]
    rw [e]
    simp only [stock0, n1, List.cons_append, List.append_assoc, List.nil_append]
  simp only [bh5]
  simp only [fseq_, fifS_, fret_, fasg_, fdrop_, fskip_, for__, fand_, fnot_, ftru_, fif_, fbool_, fchain_, fandV_, forV_, fnotV_, fneg_, fcallO_, fapp_, fcons_, fnil_, fcon_, fbin_, ftup_, flst_, fmatch_, fvar0, fvar1, fvar2, fvar3, fvar4, fvar5, fvar6, fvar7, fvar8, fvar9, fvar10, fvar11, fvar12, fvar13, fvar14, bind_ok, bind_stuck, toS_ok, toS_stuck, ofO_some, optS_some, gname_, truD_bl, Bool.not_true, Bool.not_false, Bool.false_eq_true, if_true, if_false, List.cons_append, List.nil_append, List.append_nil, List.set_cons_zero, List.set_cons_succ, endD_rt, endD_nx, ge_int, gt_int, le_int, lt_int, eq_int, add_int, sub_int, int_int, len_tup, isi_non_int, isi_non_bool, isi_non_str, isi_non_tuple, isi_bl_int, isi_bl_bool, isi_bl_str, isi_bl_tuple, isi_int_int, isi_int_bool, isi_int_str, isi_int_tuple, isi_str_int, isi_str_bool, isi_str_str, isi_str_tuple, isi_tup_int, isi_tup_bool, isi_tup_str, isi_tup_tuple, isi_lst_int, isi_lst_bool, isi_lst_str, isi_lst_tuple, q, d1, List.length_cons, List.length_nil, Nat.zero_le, show (0 + 1 + 1 + 1 : Nat) ≤ 16777216 by decide, gtup_, gcons_, gnil_, List.append_assoc, List.length_append, Nat.add_assoc, Nat.reduceAdd]
end
end DL.P
end
section
namespace DL.P
open PySem L2 PyProof.Rows
theorem o_tuple {st : Store} {n : Nat} {xs : List D} (h : st[n]? = some (.lst xs)) : tupleD [.obj n] st = some (.tup xs, st) := by
  show (match seqA st (.obj n) with | some xs => some (D.tup xs, st) | none => none) = _
  have : seqA st (.obj n) = some xs := by
    show seqL st (.obj n) = _
    exact o_seq h
  rw [this]
/-- the names of the loop -/
abbrev lenv (L : Nat) (menus spots : D) (ns : List Str) (kk : Option D) (r : List (Option D)) : Env' :=
  some (.obj 0) :: some (.int 4) :: some menus :: some spots :: some (.lst (ns.map D.str)) :: kk :: some (.obj (L + 2)) :: some (.obj (L + 3)) :: some (.obj (L + 4)) :: r
theorem book_loop (k : Nat) {ns : List Str} (hn : Names ns) (menus spots : D) (F : Feed) (ok : F.Ok) (R : Store) (M : DO) :
    ∃ (F' : Feed) (S : List (Key × D)) (fo so : List D) (kk : Option D) (r : List (Option D)), ffor (frange1 (fvar 1)) (gname 5) (bk_body (k + 1)) (lenv R.length menus spots ns none [none, none, none, none, none, none, none, none]) (F.o :: (R ++ [M, .dk (stock0 ns), .lst [], .lst []])) = .nx (lenv R.length menus spots ns kk r) (bst F' R M S fo so) ∧ F'.Ok ∧ (∀ x ∈ fo, IsRow x) ∧ fo.length ≤ 4 := by
  have loop := forL_inv (chk := fun _ => true) (g := gname 5) (body := bk_body (k + 1))
    (fun m env st => m ≤ 4 → ∃ (F' : Feed) (S : List (Key × D)) (fo so : List D) (kk a9 a10 a11 a12 a13 a14 a15 a16 : Option D), env = lenv R.length menus spots ns kk [a9, a10, a11, a12, a13, a14, a15, a16] ∧ st = bst F' R M S fo so ∧ F'.Ok ∧ BInv ns S fo so m)
    ((List.range (4 : Int).toNat).map fun (i : Nat) => D.int (0 + i)) 0 (lenv R.length menus spots ns none [none, none, none, none, none, none, none, none]) (bst F R M (stock0 ns) [] [])
    (fun j x env st hj hp => by
      have hj4 : j < 4 := by
        have := (List.getElem?_eq_some_iff.mp hj).1
        simpa using this
      obtain ⟨F2, S, fo, so, kk, a9, a10, a11, a12, a13, a14, a15, a16, rfl, rfl, ok2, I⟩ := hp (by omega)
      have hx : x = .int (j : Int) := by
        rw [List.getElem?_map, List.getElem?_range (by simpa using hj4)] at hj
        simp only [Option.map_some, Option.some.injEq] at hj
        rw [← hj]
        congr 1
        omega
      subst hx
      refine ⟨_, _, rfl, ?_⟩
      obtain ⟨F3, S3, fo3, so3, b9, b10, b11, b12, b13, b14, b15, b16, e, ok3, I3⟩ := b_all (kk := (j : Int)) (sz := .int 4) (menus := menus) (spots := spots) (R := R) (M := M) (e9 := a9) (e10 := a10) (e11 := a11) (e12 := a12) (e13 := a13) (e14 := a14) (e15 := a15) (e16 := a16) k hn (by omega) (by omega) I (by omega) ok2
      exact ⟨_, _, e, fun _ => ⟨F3, S3, fo3, so3, _, b9, b10, b11, b12, b13, b14, b15, b16, rfl, rfl, ok3, I3⟩⟩)
    (fun _ _ _ _ => rfl)
    (fun _ => ⟨F, _, _, _, _, _, _, _, _, _, _, _, _, rfl, rfl, ok, binv0 hn⟩)
  obtain ⟨env', st', el, hp⟩ := loop
  obtain ⟨F2, S, fo, so, kk, a9, a10, a11, a12, a13, a14, a15, a16, rfl, rfl, ok2, I⟩ := hp (by simp)
  refine ⟨F2, S, fo, so, kk, [a9, a10, a11, a12, a13, a14, a15, a16], ?_, ok2, I.f, by have := I.fl; simpa using this⟩
  have fr := frange1_ (f := fvar 1) (env := lenv R.length menus spots ns none [none, none, none, none, none, none, none, none]) (st := F.o :: (R ++ [M, .dk (stock0 ns), .lst [], .lst []])) (st1 := F.o :: (R ++ [M, .dk (stock0 ns), .lst [], .lst []])) (d := 4) rfl (by decide) (by decide)
  unfold ffor
  rw [fr]
  exact el
/-- a drawn book -/
theorem s_book (k : Nat) (F : Feed) (ok : F.Ok) (R : Store) : ∃ (F' : Feed) (sheet : D) (more : Store), run (k + 2) fe__law_book [.obj 0, .int 4] (F.o :: R) = some (sheet, F'.o :: (R ++ more)) ∧ F'.Ok ∧ Sheet sheet 9 := by
  rw [run__law_book, book_parts]
  rw [seq_nx (h1 (k + 1) none (F.o :: R))]
  have n : (F.o :: R).length = R.length + 1 := rfl
  rw [n, List.cons_append]
  rw [seq_nx (h2 (k + 1) F R)]
  obtain ⟨F1, m, q3, ok1, hm⟩ := h3 (T := [none, none, none, none, none, none, none, none, none, none, none, none, none]) (sz := .int 4) k ok none R
  rw [seq_nx q3]
  rw [seq_nx (h4 (k + 1) hm _ _)]
  rw [seq_nx (h5 (k + 1) hm _ F1 R _)]
  obtain ⟨F2, S, fo, so, kk, r, q6, ok2, hf, hl⟩ := book_loop k hm.names (.obj (R.length + 1)) (menuD m) F1 ok1 R (.lst ((mnA ++ mnB).map menuD))
  rw [seq_nx q6]
  have tp : tupleD [.obj (R.length + 3)] (bst F2 R (.lst ((mnA ++ mnB).map menuD)) S fo so) = some (.tup fo, bst F2 R (.lst ((mnA ++ mnB).map menuD)) S fo so) := o_tuple g3
  refine ⟨F2, .tup [menuD m, .tup fo], [.lst ((mnA ++ mnB).map menuD), .dk S, .lst fo, .lst so], ?_, ok2, ⟨_, fo, rfl, hm.sz, fun x hx => (hf x hx).sz, by have := hm.le; simpa using this, by omega⟩⟩
  · simp only [bk_ret, lenv]
    simp only [fseq_, fifS_, fret_, fasg_, fdrop_, fskip_, for__, fand_, fnot_, ftru_, fif_, fbool_, fchain_, fandV_, forV_, fnotV_, fneg_, fcallO_, fapp_, fcons_, fnil_, fcon_, fbin_, ftup_, flst_, fmatch_, fvar0, fvar1, fvar2, fvar3, fvar4, fvar5, fvar6, fvar7, fvar8, fvar9, fvar10, fvar11, fvar12, fvar13, fvar14, bind_ok, bind_stuck, toS_ok, toS_stuck, ofO_some, optS_some, gname_, truD_bl, Bool.not_true, Bool.not_false, Bool.false_eq_true, if_true, if_false, List.cons_append, List.nil_append, List.append_nil, List.set_cons_zero, List.set_cons_succ, endD_rt, endD_nx, ge_int, gt_int, le_int, lt_int, eq_int, add_int, sub_int, int_int, len_tup, isi_non_int, isi_non_bool, isi_non_str, isi_non_tuple, isi_bl_int, isi_bl_bool, isi_bl_str, isi_bl_tuple, isi_int_int, isi_int_bool, isi_int_str, isi_int_tuple, isi_str_int, isi_str_bool, isi_str_str, isi_str_tuple, isi_tup_int, isi_tup_bool, isi_tup_str, isi_tup_tuple, isi_lst_int, isi_lst_bool, isi_lst_str, isi_lst_tuple, tp, List.length_cons, List.length_nil, show (0 + 1 + 1 : Nat) ≤ 16777216 by decide]
/-- a drawn case -/
theorem s_case (k : Nat) (F : Feed) (ok : F.Ok) (R : Store) : ∃ (F' : Feed) (sheet : D) (fs : List D) (so d : D) (more : Store), run (k + 3) fe__law_case [.obj 0, .int 4] (F.o :: R) = some (.tup [sheet, .tup fs, so, d], F'.o :: (R ++ more)) ∧ F'.Ok ∧ Sheet sheet 9 ∧ (∀ x ∈ fs, Sb 10 x 200 1) ∧ fs.length ≤ 3 := by
  rw [run__law_case]
  obtain ⟨F1, sheet, m1, e1, ok1, hs⟩ := s_book k F ok R
  have e1' : cl (k + 2) fe__law_book [0, 1] [.obj 0, .int 4] (F.o :: R) = some (sheet, F1.o :: (R ++ m1)) := e1
  obtain ⟨F2, d1, e2, d10, d11, ok2⟩ := s_draw (k + 1) 5 (by decide) (by decide) F1 ok1 (R ++ m1)
  have e2' : cl (k + 2) fe__law_draw [0, 1] [.obj 0, .int 5] (F1.o :: (R ++ m1)) = some (.int d1, F2.o :: (R ++ m1)) := e2
  obtain ⟨v, hv, hi⟩ := atI_mem (xs := [D.tup [], .tup [.str "ash"], .tup [.str "ash", .str "b"], .tup [.str "b", .str "come", .str "zz"], .tup [.str "nobody"]]) d10 (by show d1 < ((5 : Nat) : Int); omega)
  have q := ix_lst (F2.o :: (R ++ m1)) hi
  obtain ⟨F3, fs, m2, e3, ok3, h1, h2⟩ := s_notes k sheet hs F2 ok2 (R ++ m1)
  have e3' : cl (k + 2) fe__law_notes [0, 1] [.obj 0, sheet] (F2.o :: (R ++ m1)) = some (.tup fs, F3.o :: ((R ++ m1) ++ m2)) := e3
  obtain ⟨F4, d2, e4, d20, d21, ok4⟩ := s_draw (k + 1) 4 (by decide) (by decide) F3 ok3 ((R ++ m1) ++ m2)
  have e4' : cl (k + 2) fe__law_draw [0, 1] [.obj 0, .int 4] (F3.o :: ((R ++ m1) ++ m2)) = some (.int d2, F4.o :: ((R ++ m1) ++ m2)) := e4
  refine ⟨F4, sheet, fs, v, .int d2, m1 ++ m2, ?_, ok4, hs, h1, h2⟩
  rw [← List.append_assoc]
  simp only [m__law_case]
  simp only [fseq_, fifS_, fret_, fasg_, fdrop_, fskip_, for__, fand_, fnot_, ftru_, fif_, fbool_, fchain_, fandV_, forV_, fnotV_, fneg_, fcallO_, fapp_, fcons_, fnil_, fcon_, fbin_, ftup_, flst_, fmatch_, fvar0, fvar1, fvar2, fvar3, fvar4, fvar5, fvar6, fvar7, fvar8, fvar9, fvar10, fvar11, fvar12, fvar13, fvar14, bind_ok, bind_stuck, toS_ok, toS_stuck, ofO_some, optS_some, gname_, truD_bl, Bool.not_true, Bool.not_false, Bool.false_eq_true, if_true, if_false, List.cons_append, List.nil_append, List.append_nil, List.set_cons_zero, List.set_cons_succ, endD_rt, endD_nx, ge_int, gt_int, le_int, lt_int, eq_int, add_int, sub_int, int_int, len_tup, isi_non_int, isi_non_bool, isi_non_str, isi_non_tuple, isi_bl_int, isi_bl_bool, isi_bl_str, isi_bl_tuple, isi_int_int, isi_int_bool, isi_int_str, isi_int_tuple, isi_str_int, isi_str_bool, isi_str_str, isi_str_tuple, isi_tup_int, isi_tup_bool, isi_tup_str, isi_tup_tuple, isi_lst_int, isi_lst_bool, isi_lst_str, isi_lst_tuple, e1', e2', e3', e4', q, List.length_cons, List.length_nil, Nat.zero_le, show (0 + 1 + 1 + 1 + 1 + 1 : Nat) ≤ 16777216 by decide, show (0 + 1 + 1 + 1 + 1 : Nat) ≤ 16777216 by decide, show (0 + 1 + 1 + 1 : Nat) ≤ 16777216 by decide, show (0 + 1 + 1 : Nat) ≤ 16777216 by decide, show (0 + 1 : Nat) ≤ 16777216 by decide]
end DL.P
end
section
namespace DL.P
open PySem L2 PyProof.Rows
def valsR : Option (D × Store) := endD (m__law_values 0 [none, none, none, none, none] [.lst []])
def valsOf : List D := match valsR with | some (.lst vs, _) => vs | _ => []
def valsMore : List D := match valsR with | some (_, [_, .lst vs]) => vs | _ => []
def valOk (x : D) : Bool := gd (10 ^ 60) x && decide (wt x ≤ 10000) && decide (dp x ≤ 5)
theorem vals_ok : valsOf.all valOk = true := by decide +kernel
theorem vals_len : valsOf.length ≤ 1000 := by decide +kernel
theorem run_values (k : Nat) (o : DO) : endD (m__law_values k [none, none, none, none, none] [o]) = some (.lst valsOf, [o, .lst valsMore]) := by kernel_rfl
end DL.P
end
section
namespace DL.P
open PySem L2 PyProof.Rows
/-- the cells that the feed keeps -/
def cutI (l : List Int) : List Int := (l.drop (HT.sIx l.length 0 none)).take (HT.sIx l.length l.length (some 63) - HT.sIx l.length 0 none)
theorem cut_ints (l : List Int) : cutD (l.map D.int) none (some 63) = (cutI l).map D.int := by
  unfold cutD cutI
  rw [List.length_map, List.map_take, List.map_drop]
theorem cutI_len (l : List Int) : (cutI l).length ≤ 63 := by
  unfold cutI
  rw [List.length_take]
  have h : HT.sIx l.length l.length (some 63) ≤ 63 := by
    unfold HT.sIx
    simp
    omega
  omega
theorem s_feed (k : Nat) (l : List Int) : run (k + 1) fe__law_feed [.scr (l.map D.int)] [] = some (.obj 0, [(⟨cutI l, 0, 0, 0⟩ : Feed).o]) := by
  rw [run__law_feed]
  have e : sliceD false (.scr (l.map D.int)) none (some 63) [.dk []] = .ok (.lst ((cutI l).map D.int)) [.dk []] := by
    show Res.ok (D.lst (cutD (l.map D.int) none (some 63))) _ = _
    rw [cut_ints]
  have e2 : listD false [.lst ((cutI l).map D.int)] [.dk []] = some (.lst ((cutI l).map D.int), [.dk []]) := rfl
  unfold Feed.o
  generalize (cutI l).map D.int = cs at e e2
  simp only [m__law_feed]
  simp only [fseq_, fifS_, fret_, fasg_, fdrop_, fskip_, for__, fand_, fnot_, ftru_, fif_, fbool_, fchain_, fandV_, forV_, fnotV_, fneg_, fcallO_, fapp_, fcons_, fnil_, fcon_, fbin_, ftup_, flst_, fmatch_, fvar0, fvar1, fvar2, fvar3, fvar4, fvar5, fvar6, fvar7, fvar8, fvar9, fvar10, fvar11, fvar12, fvar13, fvar14, bind_ok, bind_stuck, toS_ok, toS_stuck, ofO_some, optS_some, gname_, truD_bl, Bool.not_true, Bool.not_false, Bool.false_eq_true, if_true, if_false, List.cons_append, List.nil_append, List.append_nil, List.set_cons_zero, List.set_cons_succ, endD_rt, endD_nx, ge_int, gt_int, le_int, lt_int, eq_int, add_int, sub_int, int_int, len_tup, isi_non_int, isi_non_bool, isi_non_str, isi_non_tuple, isi_bl_int, isi_bl_bool, isi_bl_str, isi_bl_tuple, isi_int_int, isi_int_bool, isi_int_str, isi_int_tuple, isi_str_int, isi_str_bool, isi_str_str, isi_str_tuple, isi_tup_int, isi_tup_bool, isi_tup_str, isi_tup_tuple, isi_lst_int, isi_lst_bool, isi_lst_str, isi_lst_tuple, fdict]
  simp only [fpairs, List.nil_append]
  simp only [fseq_, fifS_, fret_, fasg_, fdrop_, fskip_, for__, fand_, fnot_, ftru_, fif_, fbool_, fchain_, fandV_, forV_, fnotV_, fneg_, fcallO_, fapp_, fcons_, fnil_, fcon_, fbin_, ftup_, flst_, fmatch_, fvar0, fvar1, fvar2, fvar3, fvar4, fvar5, fvar6, fvar7, fvar8, fvar9, fvar10, fvar11, fvar12, fvar13, fvar14, bind_ok, bind_stuck, toS_ok, toS_stuck, ofO_some, optS_some, gname_, truD_bl, Bool.not_true, Bool.not_false, Bool.false_eq_true, if_true, if_false, List.cons_append, List.nil_append, List.append_nil, List.set_cons_zero, List.set_cons_succ, endD_rt, endD_nx, ge_int, gt_int, le_int, lt_int, eq_int, add_int, sub_int, int_int, len_tup, isi_non_int, isi_non_bool, isi_non_str, isi_non_tuple, isi_bl_int, isi_bl_bool, isi_bl_str, isi_bl_tuple, isi_int_int, isi_int_bool, isi_int_str, isi_int_tuple, isi_str_int, isi_str_bool, isi_str_str, isi_str_tuple, isi_tup_int, isi_tup_bool, isi_tup_str, isi_tup_tuple, isi_lst_int, isi_lst_bool, isi_lst_str, isi_lst_tuple, fslice_, fpart_, fpartN_, e, e2]
  rfl
/-- repr of a listed object -/
theorem repr_obj {st : Store} {n : Nat} {xs : List D} {p : PyData} (h : st[n]? = some (.lst xs)) (g : good (.lst xs) = true) (hd : dp (.lst xs) ≤ 64) (hw : wt (.lst xs) ≤ 16777216) (e : toP (.lst xs) = some p) : reprD [.obj n] st = some (.str p.shown, st) := by
  have r := repr_good st g hd hw e
  unfold reprD at r ⊢
  dsimp only at r ⊢
  have e1 : toPS st (.obj n) = toPS st (.lst xs) := by
    unfold toPS
    rw [o_seq h]
    rfl
  rw [e1]
  split at r
  · exact r
  · exact r
end DL.P
end
section
namespace DL.P
open PySem L2 PyProof.Rows
structure Big (x : D) : Prop where
  g : good x = true
  w : wt x ≤ 10000
  d : dp x ≤ 6
theorem Sb.big {B w d : Nat} {x : D} (h : Sb B x w d) (hB : B ≤ 10 ^ 62) (hw : w ≤ 10000) (hd : d ≤ 6) : Big x := ⟨gd_good hB h.g, Nat.le_trans h.w hw, Nat.le_trans h.d hd⟩
theorem bigs {l : List D} (h : ∀ x ∈ l, Big x) : goods l = true ∧ wts l ≤ 10002 * l.length ∧ dps l ≤ 6 := by
  induction l with
  | nil => exact ⟨rfl, Nat.le_refl _, Nat.zero_le _⟩
  | cons a r ih =>
    obtain ⟨h1, h2, h3⟩ := ih fun b hb => h b (List.mem_cons_of_mem _ hb)
    obtain ⟨g, w, d⟩ := h a List.mem_cons_self
    refine ⟨?_, ?_, ?_⟩
    · simp only [goods, g, h1, Bool.and_self]
    · simp only [wts, List.length_cons]; omega
    · simp only [dps]; omega
def law_body (k : Nat) : FS := (fseq (fasg (fcallO (cl k fe__law_bent [0, 1]) (fapp (fcons (fvar 1) (fcons (fvar 4) fnil)) fnil)) (gname 7))
  (fseq (fdrop (fmeth "list" extendD (fvar 2) (fcons (flst false (fcons (fvar 4) (fcons (fvar 7) (fcons (fcallO (cl k fe__law_bent [0, 1]) (fapp (fcons (fvar 1) (fcons (fvar 7) fnil)) fnil)) fnil)))) fnil)))
  fskip))
theorem s_law_body (k : Nat) (scr cas : D) (e7 : Option D) (x : D) (hx : Sb 10 x 300 1) (F : Feed) (ok : F.Ok) (V : DO) (its : List D) (R : Store) (hi : its.length ≤ 1100) :
    ∃ (F' : Feed) (y z : D), law_body (k + 5) [some scr, some (.obj 0), some (.obj 2), some cas, some x, none, none, e7] (F.o :: V :: .lst its :: R) = .nx [some scr, some (.obj 0), some (.obj 2), some cas, some x, none, none, some y] (F'.o :: V :: .lst (its ++ [x, y, z]) :: R) ∧ F'.Ok ∧ Big x ∧ Big y ∧ Big z := by
  obtain ⟨y, F1, e1, ok1, hy⟩ := s_bent 10 (by decide +kernel) (by decide) 2 k x F (V :: .lst its :: R) ok hx.g (by have := hx.w; omega) (by have := hx.d; omega) (by decide)
  have hyw : wt y ≤ 1600 := by have := hy.w; have := hx.w; omega
  have hyd : dp y ≤ 2 := by have := hy.d; have := hx.d; omega
  obtain ⟨z, F2, e2, ok2, hz⟩ := s_bent 11 (by decide +kernel) (by decide) 2 k y F1 (V :: .lst its :: R) ok1 hy.g (by omega) hyd (by decide)
  have e1' : cl (k + 5) fe__law_bent [0, 1] [.obj 0, x] (F.o :: V :: .lst its :: R) = some (y, F1.o :: V :: .lst its :: R) := e1
  have e2' : cl (k + 5) fe__law_bent [0, 1] [.obj 0, y] (F1.o :: V :: .lst its :: R) = some (z, F2.o :: V :: .lst its :: R) := e2
  have t : tyName (F1.o :: V :: .lst its :: R) (.obj 2) = some "list" := rfl
  have x1 : extendD (.obj 2) [.lst [x, y, z]] (F2.o :: V :: .lst its :: R) = some (.non, F2.o :: V :: .lst (its ++ [x, y, z]) :: R) := o_ext (n := 2) (xs := its) rfl (ys := [x, y, z]) rfl (by simp only [List.length_cons, List.length_nil]; omega)
  refine ⟨F2, y, z, ?_, ok2, hx.big (by decide +kernel) (by decide) (by decide), ⟨gd_good (by decide +kernel) hy.g, by omega, by omega⟩, ⟨gd_good (by decide +kernel) hz.g, by have := hz.w; omega, by have := hz.d; omega⟩⟩
  simp only [law_body]
  simp only [fseq_, fifS_, fret_, fasg_, fdrop_, fskip_, for__, fand_, fnot_, ftru_, fif_, fbool_, fchain_, fandV_, forV_, fnotV_, fneg_, fcallO_, fapp_, fcons_, fnil_, fcon_, fbin_, ftup_, flst_, fmatch_, fvar0, fvar1, fvar2, fvar3, fvar4, fvar5, fvar6, fvar7, fvar8, fvar9, fvar10, fvar11, fvar12, fvar13, fvar14, bind_ok, bind_stuck, toS_ok, toS_stuck, ofO_some, optS_some, gname_, truD_bl, Bool.not_true, Bool.not_false, Bool.false_eq_true, if_true, if_false, List.cons_append, List.nil_append, List.append_nil, List.set_cons_zero, List.set_cons_succ, endD_rt, endD_nx, ge_int, gt_int, le_int, lt_int, eq_int, add_int, sub_int, int_int, len_tup, isi_non_int, isi_non_bool, isi_non_str, isi_non_tuple, isi_bl_int, isi_bl_bool, isi_bl_str, isi_bl_tuple, isi_int_int, isi_int_bool, isi_int_str, isi_int_tuple, isi_str_int, isi_str_bool, isi_str_str, isi_str_tuple, isi_tup_int, isi_tup_bool, isi_tup_str, isi_tup_tuple, isi_lst_int, isi_lst_bool, isi_lst_str, isi_lst_tuple, e1', fmeth_, t, e2', List.length_cons, List.length_nil, show (0 + 1 + 1 + 1 : Nat) ≤ 16777216 by decide, x1]
theorem law_loop (k : Nat) (scr cas : D) (l : List D) (hl : ∀ x ∈ l, Sb 10 x 300 1) (hn : l.length ≤ 20) (F : Feed) (ok : F.Ok) (V : DO) (its : List D) (R : Store) (hi : its.length ≤ 1000) (hb : ∀ x ∈ its, Big x) :
    ∃ (F' : Feed) (its' : List D) (e4 e7 : Option D), forL (fun _ => true) (gname 4) (law_body (k + 5)) l [some scr, some (.obj 0), some (.obj 2), some cas, none, none, none, none] (F.o :: V :: .lst its :: R) = .nx [some scr, some (.obj 0), some (.obj 2), some cas, e4, none, none, e7] (F'.o :: V :: .lst its' :: R) ∧ F'.Ok ∧ its'.length ≤ 1100 ∧ (∀ x ∈ its', Big x) := by
  have loop := forL_inv (chk := fun _ => true) (g := gname 4) (body := law_body (k + 5))
    (fun m env st => m ≤ 20 → ∃ (F' : Feed) (its' : List D) (e4 e7 : Option D), env = [some scr, some (.obj 0), some (.obj 2), some cas, e4, none, none, e7] ∧ st = F'.o :: V :: .lst its' :: R ∧ F'.Ok ∧ its'.length ≤ 1000 + 3 * m ∧ (∀ x ∈ its', Big x))
    l 0 [some scr, some (.obj 0), some (.obj 2), some cas, none, none, none, none] (F.o :: V :: .lst its :: R)
    (fun j x env st hj hp => by
      have hj4 : j < l.length := (List.getElem?_eq_some_iff.mp hj).1
      obtain ⟨F2, it2, e4, e7, rfl, rfl, ok2, h1, h2⟩ := hp (by omega)
      refine ⟨_, _, rfl, ?_⟩
      obtain ⟨F3, y, z, e, ok3, bx, b_y, bz⟩ := s_law_body k scr cas e7 x (hl x (List.mem_of_getElem? hj)) F2 ok2 V it2 R (by omega)
      refine ⟨_, _, e, fun _ => ⟨F3, _, _, _, rfl, rfl, ok3, ?_, ?_⟩⟩
      · simp only [List.length_append, List.length_cons, List.length_nil]; omega
      · intro w hw
        rcases List.mem_append.mp hw with hw | hw
        · exact h2 w hw
        · simp only [List.mem_cons, List.not_mem_nil, or_false] at hw
          rcases hw with rfl | rfl | rfl <;> assumption)
    (fun _ _ _ _ => rfl)
    (fun _ => ⟨F, its, none, none, rfl, rfl, ok, by omega, hb⟩)
  obtain ⟨env', st', el, hp⟩ := loop
  obtain ⟨F2, it2, e4, e7, rfl, rfl, ok2, h1, h2⟩ := hp (by omega)
  exact ⟨F2, it2, e4, e7, el, ok2, by omega, h2⟩
/-- the look at every item -/
theorem law_looks (k : Nat) (env0 : Env') (F : DO) (V : DO) (its : List D) (hb : ∀ x ∈ its, Big x) (hl4 : 4 < env0.length) : ∀ (l : List D) (R : Store), (∀ x ∈ l, Big x) →
    ∃ more, lcL (stands (.obj 2) its) (.one 4) (fnot (ftru (fcallO (cl (k + 4) fe__law_right [0]) (fapp (fcons (fvar 4) fnil) fnil)))) (fvar 4) env0 l [] (F :: V :: .lst its :: R) = some ([], F :: V :: .lst its :: (R ++ more))
  | [], R, _ => ⟨[], by
      have s : stands (.obj 2) its (F :: V :: .lst its :: R) = true := stands_now rfl
      unfold lcL
      rw [s, List.append_nil]
      rfl⟩
  | x :: l, R, h => by
    obtain ⟨g, w, d⟩ := h x List.mem_cons_self
    obtain ⟨m1, e⟩ := s_law_right k x (F :: V :: .lst its :: R) g (by omega) (by omega)
    have e1 : cl (k + 4) fe__law_right [0] [x] (F :: V :: .lst its :: R) = some (.bl true, F :: V :: .lst its :: (R ++ m1)) := e
    obtain ⟨m2, r⟩ := law_looks k env0 F V its hb hl4 l (R ++ m1) fun y hy => h y (List.mem_cons_of_mem _ hy)
    have s : stands (.obj 2) its (F :: V :: .lst its :: R) = true := stands_now rfl
    refine ⟨m1 ++ m2, ?_⟩
    have b : bindT (.one 4) x env0 = some (env0.set 4 (some x)) := rfl
    have v : ∀ st, fvar 4 (env0.set 4 (some x)) st = .ok x st := by
      intro st
      have : (env0.set 4 (some x))[4]? = some (some x) := by simp [hl4]
      unfold fvar
      simp only [this]
    have t : fnot (ftru (fcallO (cl (k + 4) fe__law_right [0]) (fapp (fcons (fvar 4) fnil) fnil))) (env0.set 4 (some x)) (F :: V :: .lst its :: R) = .ok false (F :: V :: .lst its :: (R ++ m1)) := by
      simp only [fseq_, fifS_, fret_, fasg_, fdrop_, fskip_, for__, fand_, fnot_, ftru_, fif_, fbool_, fchain_, fandV_, forV_, fnotV_, fneg_, fcallO_, fapp_, fcons_, fnil_, fcon_, fbin_, ftup_, flst_, fmatch_, fvar0, fvar1, fvar2, fvar3, fvar4, fvar5, fvar6, fvar7, fvar8, fvar9, fvar10, fvar11, fvar12, fvar13, fvar14, bind_ok, bind_stuck, toS_ok, toS_stuck, ofO_some, optS_some, gname_, truD_bl, Bool.not_true, Bool.not_false, Bool.false_eq_true, if_true, if_false, List.cons_append, List.nil_append, List.append_nil, List.set_cons_zero, List.set_cons_succ, endD_rt, endD_nx, ge_int, gt_int, le_int, lt_int, eq_int, add_int, sub_int, int_int, len_tup, isi_non_int, isi_non_bool, isi_non_str, isi_non_tuple, isi_bl_int, isi_bl_bool, isi_bl_str, isi_bl_tuple, isi_int_int, isi_int_bool, isi_int_str, isi_int_tuple, isi_str_int, isi_str_bool, isi_str_str, isi_str_tuple, isi_tup_int, isi_tup_bool, isi_tup_str, isi_tup_tuple, isi_lst_int, isi_lst_bool, isi_lst_str, isi_lst_tuple, v, e1]
    unfold lcL
    rw [s, b]
    simp only [if_true, t]
    rw [r, List.append_assoc]
end DL.P
end
section
namespace DL.P
open PySem L2 PyProof.Rows
def lw1 (k : Nat) : FS := (fasg (fcallO (cl k fe__law_feed [0]) (fapp (fcons (fvar 0) fnil) fnil)) (gname 1))
def lw2 (k : Nat) : FS := (fasg (fstep true (fcallO (cl k fe__law_values []) (fapp fnil fnil)) (fpart (fcallO (cl k fe__law_draw [0, 1]) (fapp (fcons (fvar 1) (fcons (fcon (.int 4)) fnil)) fnil))) fpartN (fpart (fcon (.int 4)))) (gname 2))
def lw3 (k : Nat) : FS := (fasg (fcallO (cl k fe__law_case [0, 1]) (fapp (fcons (fvar 1) (fcons (fcon (.int 4)) fnil)) fnil)) (gname 3))
def lw4 (k : Nat) : FS := (ffor (fitems (fbin (binD2 .Add) (fbin (binD2 .Add) (fbin ixD (fbin ixD (fvar 3) (fcon (.int 0))) (fcon (.int 0))) (fbin ixD (fbin ixD (fvar 3) (fcon (.int 0))) (fcon (.int 1)))) (fbin ixD (fvar 3) (fcon (.int 1))))) (gname 4) (law_body k))
def lw5 (k : Nat) : FS := (fasg (fcallO reprD (fcons (fvar 2) fnil)) (gname 5))
def lw6t (k : Nat) : FF Bool := (for_ (fbool (fbin (cmpD .NotEq) (flc false (fitems (fvar 2)) (.one 4) (fnot (ftru (fcallO (cl k fe__law_right [0]) (fapp (fcons (fvar 4) fnil) fnil)))) (fvar 4) [4]) (flst false fnil))) (fbool (fbin (cmpD .NotEq) (fcallO reprD (fcons (fvar 2) fnil)) (fvar 5))))
def lw6 (k : Nat) : FS := (fifS (lw6t k)
  (fseq (fret (fcon (.bl false)))
  fskip)
  fskip)
def lw7 (k : Nat) : FS := (fasg (flst false (fcons (fcallO (cl k fe_is_number [0]) (fapp fnil (fcons (fcon (.int 0)) fnil))) (fcons (fcallO (cl k fe_is_name [0]) (fapp fnil (fcons (fcon (.str "a")) fnil))) (fcons (fcallO (cl k fe_is_place [0]) (fapp fnil (fcons (ftup (fcons (fcon (.str "a")) (fcons (fcon (.str "heap")) fnil))) fnil))) (fcons (fcallO (cl k fe_is_row [0]) (fapp fnil (fcons (ftup (fcons (fcon (.str "sell")) (fcons (fcon (.str "a")) (fcons (fcon (.int 1)) fnil)))) fnil))) fnil))))) (gname 6))
def lw8 (k : Nat) : FS := (fret (fbin (cmpD .Eq) (fcallO reprD (fcons (fbin (binD2 .Add) (fvar 6) (flst false (fcons (fcallO (cl k fe_is_finding [0]) (fapp fnil (fcons (ftup (fcons (fcon (.str "bad")) (fcons (fcon (.int 0)) fnil))) fnil))) fnil))) fnil)) (fcallO reprD (fcons (fbin (binD2 .Mult) (flst false (fcons (fcon (.bl true)) fnil)) (fcon (.int 5))) fnil))))
theorem law_parts (k : Nat) : m_law k = (fseq (lw1 k) (fseq (lw2 k) (fseq (lw3 k) (fseq (lw4 k) (fseq (lw5 k) (fseq (lw6 k) (fseq (lw7 k) (fseq (lw8 k) fskip)))))))) := rfl
theorem lwa1 (k : Nat) (l : List Int) : lw1 (k + 1) [some (.scr (l.map D.int)), none, none, none, none, none, none, none] [] = .nx [some (.scr (l.map D.int)), some (.obj 0), none, none, none, none, none, none] [(⟨cutI l, 0, 0, 0⟩ : Feed).o] := by
  have e : cl (k + 1) fe__law_feed [0] [.scr (l.map D.int)] [] = some (.obj 0, [(⟨cutI l, 0, 0, 0⟩ : Feed).o]) := s_feed k l
  generalize D.scr (l.map D.int) = s at e ⊢
  simp only [lw1]
  simp only [fseq_, fifS_, fret_, fasg_, fdrop_, fskip_, for__, fand_, fnot_, ftru_, fif_, fbool_, fchain_, fandV_, forV_, fnotV_, fneg_, fcallO_, fapp_, fcons_, fnil_, fcon_, fbin_, ftup_, flst_, fmatch_, fvar0, fvar1, fvar2, fvar3, fvar4, fvar5, fvar6, fvar7, fvar8, fvar9, fvar10, fvar11, fvar12, fvar13, fvar14, bind_ok, bind_stuck, toS_ok, toS_stuck, ofO_some, optS_some, gname_, truD_bl, Bool.not_true, Bool.not_false, Bool.false_eq_true, if_true, if_false, List.cons_append, List.nil_append, List.append_nil, List.set_cons_zero, List.set_cons_succ, endD_rt, endD_nx, ge_int, gt_int, le_int, lt_int, eq_int, add_int, sub_int, int_int, len_tup, isi_non_int, isi_non_bool, isi_non_str, isi_non_tuple, isi_bl_int, isi_bl_bool, isi_bl_str, isi_bl_tuple, isi_int_int, isi_int_bool, isi_int_str, isi_int_tuple, isi_str_int, isi_str_bool, isi_str_str, isi_str_tuple, isi_tup_int, isi_tup_bool, isi_tup_str, isi_tup_tuple, isi_lst_int, isi_lst_bool, isi_lst_str, isi_lst_tuple, e]
theorem pick_mem {α : Type} {is : List Nat} {xs : List α} {x : α} (h : x ∈ pick is xs) : x ∈ xs := by
  unfold pick at h
  simp only [List.mem_filterMap] at h
  obtain ⟨i, -, hi⟩ := h
  exact List.mem_of_getElem? hi
theorem pick_len {α : Type} (is : List Nat) (xs : List α) : (pick is xs).length ≤ is.length := by
  unfold pick
  exact List.length_filterMap_le _ _
theorem step_len : ((List.range 4).all fun (j : Nat) => decide ((stepOf valsOf.length (some (j : Int)) none 4).length ≤ 1000)) = true := by decide +kernel
theorem step_len' {d : Int} (h0 : 0 ≤ d) (h1 : d < 4) : (stepOf valsOf.length (some d) none 4).length ≤ 1000 := by
  have h := List.all_eq_true.mp step_len d.toNat (List.mem_range.mpr (by omega))
  have e : ((d.toNat : Nat) : Int) = d := Int.toNat_of_nonneg h0
  rw [e] at h
  exact of_decide_eq_true h
theorem lwa2 (k : Nat) (s : D) (F : Feed) (ok : F.Ok) : ∃ (F' : Feed) (its : List D), lw2 (k + 1) [some s, some (.obj 0), none, none, none, none, none, none] [F.o] = .nx [some s, some (.obj 0), some (.obj 2), none, none, none, none, none] (F'.o :: .lst valsMore :: .lst its :: []) ∧ F'.Ok ∧ its.length ≤ 1000 ∧ (∀ x ∈ its, Big x) := by
  have e : run (k + 1) fe__law_values [] [F.o] = some (.lst valsOf, [F.o, .lst valsMore]) := (run__law_values k [F.o]).trans (run_values k F.o)
  have e1 : cl (k + 1) fe__law_values [] [] [F.o] = some (.lst valsOf, [F.o, .lst valsMore]) := e
  obtain ⟨F1, d, e2, d0, d1, ok1⟩ := s_draw k 4 (by decide) (by decide) F ok [.lst valsMore]
  have e2' : cl (k + 1) fe__law_draw [0, 1] [.obj 0, .int 4] [F.o, .lst valsMore] = some (.int d, [F1.o, .lst valsMore]) := e2
  have st1 : stepD true (.lst valsOf) (some d) none (some 4) [F1.o, .lst valsMore] = .ok (.obj 2) [F1.o, .lst valsMore, .lst (pick (stepOf valsOf.length (some d) none 4) valsOf)] := rfl
  refine ⟨F1, pick (stepOf valsOf.length (some d) none 4) valsOf, ?_, ok1, ?_, ?_⟩
  · generalize valsMore = vm at *
    generalize pick (stepOf valsOf.length (some d) none 4) valsOf = pk at *
    generalize valsOf = vo at *
    simp only [lw2]
    simp only [fseq_, fifS_, fret_, fasg_, fdrop_, fskip_, for__, fand_, fnot_, ftru_, fif_, fbool_, fchain_, fandV_, forV_, fnotV_, fneg_, fcallO_, fapp_, fcons_, fnil_, fcon_, fbin_, ftup_, flst_, fmatch_, fvar0, fvar1, fvar2, fvar3, fvar4, fvar5, fvar6, fvar7, fvar8, fvar9, fvar10, fvar11, fvar12, fvar13, fvar14, bind_ok, bind_stuck, toS_ok, toS_stuck, ofO_some, optS_some, gname_, truD_bl, Bool.not_true, Bool.not_false, Bool.false_eq_true, if_true, if_false, List.cons_append, List.nil_append, List.append_nil, List.set_cons_zero, List.set_cons_succ, endD_rt, endD_nx, ge_int, gt_int, le_int, lt_int, eq_int, add_int, sub_int, int_int, len_tup, isi_non_int, isi_non_bool, isi_non_str, isi_non_tuple, isi_bl_int, isi_bl_bool, isi_bl_str, isi_bl_tuple, isi_int_int, isi_int_bool, isi_int_str, isi_int_tuple, isi_str_int, isi_str_bool, isi_str_str, isi_str_tuple, isi_tup_int, isi_tup_bool, isi_tup_str, isi_tup_tuple, isi_lst_int, isi_lst_bool, isi_lst_str, isi_lst_tuple, fstep_, fpart_, fpartN_, e1, e2', st1]
  · exact Nat.le_trans (pick_len _ _) (step_len' d0 d1)
  · intro x hx
    have h := List.all_eq_true.mp vals_ok x (pick_mem hx)
    simp only [valOk, Bool.and_eq_true, decide_eq_true_eq] at h
    obtain ⟨⟨h1, h2⟩, h3⟩ := h
    exact ⟨gd_good (by decide +kernel) h1, h2, by omega⟩
theorem lwa3 (k : Nat) (s : D) (F : Feed) (ok : F.Ok) (R : Store) : ∃ (F' : Feed) (sheet : D) (fs : List D) (so d : D) (more : Store), lw3 (k + 3) [some s, some (.obj 0), some (.obj 2), none, none, none, none, none] (F.o :: R) = .nx [some s, some (.obj 0), some (.obj 2), some (.tup [sheet, .tup fs, so, d]), none, none, none, none] (F'.o :: (R ++ more)) ∧ F'.Ok ∧ Sheet sheet 9 ∧ (∀ x ∈ fs, Sb 10 x 200 1) ∧ fs.length ≤ 3 := by
  obtain ⟨F1, sheet, fs, so, d, more, e, h1, h2, h3, h4⟩ := s_case k F ok R
  have e1 : cl (k + 3) fe__law_case [0, 1] [.obj 0, .int 4] (F.o :: R) = some (.tup [sheet, .tup fs, so, d], F1.o :: (R ++ more)) := e
  refine ⟨F1, sheet, fs, so, d, more, ?_, h1, h2, h3, h4⟩
  simp only [lw3]
  simp only [fseq_, fifS_, fret_, fasg_, fdrop_, fskip_, for__, fand_, fnot_, ftru_, fif_, fbool_, fchain_, fandV_, forV_, fnotV_, fneg_, fcallO_, fapp_, fcons_, fnil_, fcon_, fbin_, ftup_, flst_, fmatch_, fvar0, fvar1, fvar2, fvar3, fvar4, fvar5, fvar6, fvar7, fvar8, fvar9, fvar10, fvar11, fvar12, fvar13, fvar14, bind_ok, bind_stuck, toS_ok, toS_stuck, ofO_some, optS_some, gname_, truD_bl, Bool.not_true, Bool.not_false, Bool.false_eq_true, if_true, if_false, List.cons_append, List.nil_append, List.append_nil, List.set_cons_zero, List.set_cons_succ, endD_rt, endD_nx, ge_int, gt_int, le_int, lt_int, eq_int, add_int, sub_int, int_int, len_tup, isi_non_int, isi_non_bool, isi_non_str, isi_non_tuple, isi_bl_int, isi_bl_bool, isi_bl_str, isi_bl_tuple, isi_int_int, isi_int_bool, isi_int_str, isi_int_tuple, isi_str_int, isi_str_bool, isi_str_str, isi_str_tuple, isi_tup_int, isi_tup_bool, isi_tup_str, isi_tup_tuple, isi_lst_int, isi_lst_bool, isi_lst_str, isi_lst_tuple, e1]
theorem lwa4 (k : Nat) (s : D) (F : Feed) (ok : F.Ok) (V : DO) (its : List D) (R : Store) (hi : its.length ≤ 1000) (hb : ∀ x ∈ its, Big x) (sheet : D) (fs : List D) (so d : D) (hs : Sheet sheet 9) (h1 : ∀ x ∈ fs, Sb 10 x 200 1) (h2 : fs.length ≤ 3) :
    ∃ (F' : Feed) (its' : List D) (e4 e7 : Option D), lw4 (k + 5) [some s, some (.obj 0), some (.obj 2), some (.tup [sheet, .tup fs, so, d]), none, none, none, none] (F.o :: V :: .lst its :: R) = .nx [some s, some (.obj 0), some (.obj 2), some (.tup [sheet, .tup fs, so, d]), e4, none, none, e7] (F'.o :: V :: .lst its' :: R) ∧ F'.Ok ∧ its'.length ≤ 1100 ∧ (∀ x ∈ its', Big x) := by
  obtain ⟨spots, rows, rfl, q1, q2, q3, q4⟩ := hs.ex
  have hl : ∀ x ∈ (spots ++ rows) ++ fs, Sb 10 x 300 1 := by
    intro x hx
    rcases List.mem_append.mp hx with hx | hx
    · rcases List.mem_append.mp hx with hx | hx
      · have h := q1 x hx; exact ⟨h.g, by have := h.w; omega, h.d⟩
      · exact q2 x hx
    · have h := h1 x hx; exact ⟨h.g, by have := h.w; omega, h.d⟩
  have hn : ((spots ++ rows) ++ fs).length ≤ 20 := by simp only [List.length_append]; omega
  obtain ⟨F1, it2, e4, e7, e, r⟩ := law_loop k s (.tup [.tup [.tup spots, .tup rows], .tup fs, so, d]) _ hl hn F ok V its R hi hb
  refine ⟨F1, it2, e4, e7, ?_, r⟩
  have a1 : binD2 .Add (.tup spots) (.tup rows) (F.o :: V :: .lst its :: R) = .ok (.tup (spots ++ rows)) (F.o :: V :: .lst its :: R) := by
    show (if spots.length + rows.length ≤ 16777216 then Res.ok (D.tup (spots ++ rows)) _ else .stuck) = _
    rw [if_pos (by omega)]
  have a2 : binD2 .Add (.tup (spots ++ rows)) (.tup fs) (F.o :: V :: .lst its :: R) = .ok (.tup ((spots ++ rows) ++ fs)) (F.o :: V :: .lst its :: R) := by
    show (if (spots ++ rows).length + fs.length ≤ 16777216 then Res.ok (D.tup ((spots ++ rows) ++ fs)) _ else .stuck) = _
    rw [if_pos (by simp only [List.length_append]; omega)]
  have i0 : ∀ (a : D) (r : List D) (st : Store), ixD (.tup (a :: r)) (.int 0) st = .ok a st := ix0
  have i1 : ∀ (a b : D) (r : List D) (st : Store), ixD (.tup (a :: b :: r)) (.int 1) st = .ok b st := fun a b r st => ixS _ _ 0 _ _ rfl
  unfold lw4 ffor fitems
  simp only [fseq_, fifS_, fret_, fasg_, fdrop_, fskip_, for__, fand_, fnot_, ftru_, fif_, fbool_, fchain_, fandV_, forV_, fnotV_, fneg_, fcallO_, fapp_, fcons_, fnil_, fcon_, fbin_, ftup_, flst_, fmatch_, fvar0, fvar1, fvar2, fvar3, fvar4, fvar5, fvar6, fvar7, fvar8, fvar9, fvar10, fvar11, fvar12, fvar13, fvar14, bind_ok, bind_stuck, toS_ok, toS_stuck, ofO_some, optS_some, gname_, truD_bl, Bool.not_true, Bool.not_false, Bool.false_eq_true, if_true, if_false, List.cons_append, List.nil_append, List.append_nil, List.set_cons_zero, List.set_cons_succ, endD_rt, endD_nx, ge_int, gt_int, le_int, lt_int, eq_int, add_int, sub_int, int_int, len_tup, isi_non_int, isi_non_bool, isi_non_str, isi_non_tuple, isi_bl_int, isi_bl_bool, isi_bl_str, isi_bl_tuple, isi_int_int, isi_int_bool, isi_int_str, isi_int_tuple, isi_str_int, isi_str_bool, isi_str_str, isi_str_tuple, isi_tup_int, isi_tup_bool, isi_tup_str, isi_tup_tuple, isi_lst_int, isi_lst_bool, isi_lst_str, isi_lst_tuple, i0, i1, a1, a2, itemsD]
  exact e
end DL.P
end
section
namespace DL.P
open PySem L2 PyProof.Rows
theorem lst_big {its : List D} (hb : ∀ x ∈ its, Big x) (hl : its.length ≤ 1100) : good (.lst its) = true ∧ dp (.lst its) ≤ 64 ∧ wt (.lst its) ≤ 16777216 := by
  obtain ⟨h1, h2, h3⟩ := bigs hb
  refine ⟨by simp only [good, h1], ?_, ?_⟩
  · simp only [dp]; omega
  · simp only [wt]; omega
theorem lwa56 (k : Nat) (s cas : D) (e4 e7 : Option D) (F V : DO) (its : List D) (R : Store) (hi : its.length ≤ 1100) (hb : ∀ x ∈ its, Big x) : ∃ (pg : D) (more : Store), ∀ T : FS,
    fseq (lw5 (k + 4)) (fseq (lw6 (k + 4)) T) [some s, some (.obj 0), some (.obj 2), some cas, e4, none, none, e7] (F :: V :: .lst its :: R) = T [some s, some (.obj 0), some (.obj 2), some cas, e4, some pg, none, e7] (F :: V :: .lst its :: (R ++ more)) := by
  obtain ⟨g, d, w⟩ := lst_big hb hi
  obtain ⟨p, ep, -, hl, -⟩ := good_P g
  have r1 : ∀ R, reprD [.obj 2] (F :: V :: .lst its :: R) = some (.str p.shown, F :: V :: .lst its :: R) := fun R => repr_obj (n := 2) rfl g d w ep
  obtain ⟨more, e⟩ := law_looks k (wipeE [some s, some (.obj 0), some (.obj 2), some cas, e4, some (.str p.shown), none, e7] [4]) F V its hb (by simp [wipeE]) its R hb
  have q1 : flc false (fitems (fvar 2)) (.one 4) (fnot (ftru (fcallO (cl (k + 4) fe__law_right [0]) (fapp (fcons (fvar 4) fnil) fnil)))) (fvar 4) [4] [some s, some (.obj 0), some (.obj 2), some cas, e4, some (.str p.shown), none, e7] (F :: V :: .lst its :: R) = .ok (.lst []) (F :: V :: .lst its :: (R ++ more)) := by
    unfold flc fitems
    have it : itemsD (.obj 2) (F :: V :: .lst its :: R) = some ⟨its, stands (.obj 2) its⟩ := rfl
    simp only [fseq_, fifS_, fret_, fasg_, fdrop_, fskip_, for__, fand_, fnot_, ftru_, fif_, fbool_, fchain_, fandV_, forV_, fnotV_, fneg_, fcallO_, fapp_, fcons_, fnil_, fcon_, fbin_, ftup_, flst_, fmatch_, fvar0, fvar1, fvar2, fvar3, fvar4, fvar5, fvar6, fvar7, fvar8, fvar9, fvar10, fvar11, fvar12, fvar13, fvar14, bind_ok, bind_stuck, toS_ok, toS_stuck, ofO_some, optS_some, gname_, truD_bl, Bool.not_true, Bool.not_false, Bool.false_eq_true, if_true, if_false, List.cons_append, List.nil_append, List.append_nil, List.set_cons_zero, List.set_cons_succ, endD_rt, endD_nx, ge_int, gt_int, le_int, lt_int, eq_int, add_int, sub_int, int_int, len_tup, isi_non_int, isi_non_bool, isi_non_str, isi_non_tuple, isi_bl_int, isi_bl_bool, isi_bl_str, isi_bl_tuple, isi_int_int, isi_int_bool, isi_int_str, isi_int_tuple, isi_str_int, isi_str_bool, isi_str_str, isi_str_tuple, isi_tup_int, isi_tup_bool, isi_tup_str, isi_tup_tuple, isi_lst_int, isi_lst_bool, isi_lst_str, isi_lst_tuple, it]
    rw [e]
  have ne1 : cmpD .NotEq (.lst []) (.lst []) (F :: V :: .lst its :: (R ++ more)) = .ok (.bl false) (F :: V :: .lst its :: (R ++ more)) := eq_nilL (ds := []) true _ rfl (by decide)
  have ne2 : cmpD .NotEq (.str p.shown) (.str p.shown) (F :: V :: .lst its :: (R ++ more)) = .ok (.bl false) (F :: V :: .lst its :: (R ++ more)) := by
    refine (eq_strD true p.shown p.shown _ (ok_shown hl) (ok_shown hl)).trans ?_
    simp
  refine ⟨.str p.shown, more, fun T => ?_⟩
  have h5 : lw5 (k + 4) [some s, some (.obj 0), some (.obj 2), some cas, e4, none, none, e7] (F :: V :: .lst its :: R) = .nx [some s, some (.obj 0), some (.obj 2), some cas, e4, some (.str p.shown), none, e7] (F :: V :: .lst its :: R) := by
    simp only [lw5]
    simp only [fseq_, fifS_, fret_, fasg_, fdrop_, fskip_, for__, fand_, fnot_, ftru_, fif_, fbool_, fchain_, fandV_, forV_, fnotV_, fneg_, fcallO_, fapp_, fcons_, fnil_, fcon_, fbin_, ftup_, flst_, fmatch_, fvar0, fvar1, fvar2, fvar3, fvar4, fvar5, fvar6, fvar7, fvar8, fvar9, fvar10, fvar11, fvar12, fvar13, fvar14, bind_ok, bind_stuck, toS_ok, toS_stuck, ofO_some, optS_some, gname_, truD_bl, Bool.not_true, Bool.not_false, Bool.false_eq_true, if_true, if_false, List.cons_append, List.nil_append, List.append_nil, List.set_cons_zero, List.set_cons_succ, endD_rt, endD_nx, ge_int, gt_int, le_int, lt_int, eq_int, add_int, sub_int, int_int, len_tup, isi_non_int, isi_non_bool, isi_non_str, isi_non_tuple, isi_bl_int, isi_bl_bool, isi_bl_str, isi_bl_tuple, isi_int_int, isi_int_bool, isi_int_str, isi_int_tuple, isi_str_int, isi_str_bool, isi_str_str, isi_str_tuple, isi_tup_int, isi_tup_bool, isi_tup_str, isi_tup_tuple, isi_lst_int, isi_lst_bool, isi_lst_str, isi_lst_tuple, r1]
  have h6t : lw6t (k + 4) [some s, some (.obj 0), some (.obj 2), some cas, e4, some (.str p.shown), none, e7] (F :: V :: .lst its :: R) = .ok false (F :: V :: .lst its :: (R ++ more)) := by
    unfold lw6t
    rw [for__, fbool_, fbin_, q1]
    simp only [fseq_, fifS_, fret_, fasg_, fdrop_, fskip_, for__, fand_, fnot_, ftru_, fif_, fbool_, fchain_, fandV_, forV_, fnotV_, fneg_, fcallO_, fapp_, fcons_, fnil_, fcon_, fbin_, ftup_, flst_, fmatch_, fvar0, fvar1, fvar2, fvar3, fvar4, fvar5, fvar6, fvar7, fvar8, fvar9, fvar10, fvar11, fvar12, fvar13, fvar14, bind_ok, bind_stuck, toS_ok, toS_stuck, ofO_some, optS_some, gname_, truD_bl, Bool.not_true, Bool.not_false, Bool.false_eq_true, if_true, if_false, List.cons_append, List.nil_append, List.append_nil, List.set_cons_zero, List.set_cons_succ, endD_rt, endD_nx, ge_int, gt_int, le_int, lt_int, eq_int, add_int, sub_int, int_int, len_tup, isi_non_int, isi_non_bool, isi_non_str, isi_non_tuple, isi_bl_int, isi_bl_bool, isi_bl_str, isi_bl_tuple, isi_int_int, isi_int_bool, isi_int_str, isi_int_tuple, isi_str_int, isi_str_bool, isi_str_str, isi_str_tuple, isi_tup_int, isi_tup_bool, isi_tup_str, isi_tup_tuple, isi_lst_int, isi_lst_bool, isi_lst_str, isi_lst_tuple, List.length_nil, Nat.zero_le, ne1, r1, ne2]
  have h6 : lw6 (k + 4) [some s, some (.obj 0), some (.obj 2), some cas, e4, some (.str p.shown), none, e7] (F :: V :: .lst its :: R) = .nx [some s, some (.obj 0), some (.obj 2), some cas, e4, some (.str p.shown), none, e7] (F :: V :: .lst its :: (R ++ more)) := by
    unfold lw6
    rw [fifS_, h6t]
    rfl
  rw [seq_nx h5, seq_nx h6]
theorem good_c1 : good (.int 0) = true ∧ good (.str "a") = true ∧ good (.tup [.str "a", .str "heap"]) = true ∧ good (.tup [.str "sell", .str "a", .int 1]) = true ∧ good (.tup [.str "bad", .int 0]) = true := by decide +kernel
theorem wt_c1 : wt (.str "a") ≤ 1000000 ∧ wt (.tup [.str "a", .str "heap"]) ≤ 1000000 ∧ wt (.tup [.str "sell", .str "a", .int 1]) ≤ 1000000 := by decide +kernel
theorem is_c1 : isNum (.int 0) = true ∧ isNam (.str "a") = true ∧ isPl (.tup [.str "a", .str "heap"]) = true ∧ isRw (.tup [.str "sell", .str "a", .int 1]) = true ∧ isFd (.tup [.str "bad", .int 0]) = true := by decide +kernel
theorem lwa7 (k : Nat) (a b c d e f h : Option D) (st : Store) : lw7 (k + 3) [a, b, c, d, e, f, none, h] st = .nx [a, b, c, d, e, f, some (.lst [.bl true, .bl true, .bl true, .bl true]), h] st := by
  obtain ⟨g1, g2, g3, g4, g5⟩ := good_c1
  obtain ⟨w1, w2, w3⟩ := wt_c1
  obtain ⟨i1, i2, i3, i4, i5⟩ := is_c1
  have a1 : cl (k + 3) fe_is_number [0] [.int 0] st = some (.bl true, st) := by
    rw [← i1]; exact s_is_number (k + 2) _ st g1
  have a2 : cl (k + 3) fe_is_name [0] [.str "a"] st = some (.bl true, st) := by
    rw [← i2]; exact s_is_name (k + 2) _ st g2 w1
  have a3 : cl (k + 3) fe_is_place [0] [.tup [.str "a", .str "heap"]] st = some (.bl true, st) := by
    rw [← i3]; exact s_is_place (k + 1) _ st g3 w2
  have a4 : cl (k + 3) fe_is_row [0] [.tup [.str "sell", .str "a", .int 1]] st = some (.bl true, st) := by
    rw [← i4]; exact s_is_row k _ st g4 w3
  simp only [lw7]
  simp only [fseq_, fifS_, fret_, fasg_, fdrop_, fskip_, for__, fand_, fnot_, ftru_, fif_, fbool_, fchain_, fandV_, forV_, fnotV_, fneg_, fcallO_, fapp_, fcons_, fnil_, fcon_, fbin_, ftup_, flst_, fmatch_, fvar0, fvar1, fvar2, fvar3, fvar4, fvar5, fvar6, fvar7, fvar8, fvar9, fvar10, fvar11, fvar12, fvar13, fvar14, bind_ok, bind_stuck, toS_ok, toS_stuck, ofO_some, optS_some, gname_, truD_bl, Bool.not_true, Bool.not_false, Bool.false_eq_true, if_true, if_false, List.cons_append, List.nil_append, List.append_nil, List.set_cons_zero, List.set_cons_succ, endD_rt, endD_nx, ge_int, gt_int, le_int, lt_int, eq_int, add_int, sub_int, int_int, len_tup, isi_non_int, isi_non_bool, isi_non_str, isi_non_tuple, isi_bl_int, isi_bl_bool, isi_bl_str, isi_bl_tuple, isi_int_int, isi_int_bool, isi_int_str, isi_int_tuple, isi_str_int, isi_str_bool, isi_str_str, isi_str_tuple, isi_tup_int, isi_tup_bool, isi_tup_str, isi_tup_tuple, isi_lst_int, isi_lst_bool, isi_lst_str, isi_lst_tuple, a1, a2, a3, a4, List.length_cons, List.length_nil, show (0 + 1 + 1 + 1 + 1 : Nat) ≤ 16777216 by decide, show (0 + 1 + 1 + 1 : Nat) ≤ 16777216 by decide, show (0 + 1 + 1 : Nat) ≤ 16777216 by decide]
theorem lwa8 (k : Nat) (a b c d e f h : Option D) (st : Store) : endD (fseq (lw8 (k + 3)) fskip [a, b, c, d, e, f, some (.lst [.bl true, .bl true, .bl true, .bl true]), h] st) = some (.bl true, st) := by
  obtain ⟨g1, g2, g3, g4, g5⟩ := good_c1
  obtain ⟨i1, i2, i3, i4, i5⟩ := is_c1
  have a5 : cl (k + 3) fe_is_finding [0] [.tup [.str "bad", .int 0]] st = some (.bl true, st) := by
    rw [← i5]; exact s_is_finding (k + 1) _ st g5
  have m1 : binD2 .Add (.lst [.bl true, .bl true, .bl true, .bl true]) (.lst [.bl true]) st = .ok (.lst [.bl true, .bl true, .bl true, .bl true, .bl true]) st := rfl
  have m2 : binD2 .Mult (.lst [.bl true]) (.int 5) st = .ok (.lst [.bl true, .bl true, .bl true, .bl true, .bl true]) st := rfl
  have g : good (.lst [.bl true, .bl true, .bl true, .bl true, .bl true]) = true := rfl
  obtain ⟨p, ep, -, hl, -⟩ := good_P g
  have r := repr_good st g (by simp [dp, dps]) (by simp [wt, wts]) ep
  have q : cmpD .Eq (.str p.shown) (.str p.shown) st = .ok (.bl true) st := by
    refine (eq_strD false p.shown p.shown st (ok_shown hl) (ok_shown hl)).trans ?_
    simp
  simp only [lw8]
  simp only [fseq_, fifS_, fret_, fasg_, fdrop_, fskip_, for__, fand_, fnot_, ftru_, fif_, fbool_, fchain_, fandV_, forV_, fnotV_, fneg_, fcallO_, fapp_, fcons_, fnil_, fcon_, fbin_, ftup_, flst_, fmatch_, fvar0, fvar1, fvar2, fvar3, fvar4, fvar5, fvar6, fvar7, fvar8, fvar9, fvar10, fvar11, fvar12, fvar13, fvar14, bind_ok, bind_stuck, toS_ok, toS_stuck, ofO_some, optS_some, gname_, truD_bl, Bool.not_true, Bool.not_false, Bool.false_eq_true, if_true, if_false, List.cons_append, List.nil_append, List.append_nil, List.set_cons_zero, List.set_cons_succ, endD_rt, endD_nx, ge_int, gt_int, le_int, lt_int, eq_int, add_int, sub_int, int_int, len_tup, isi_non_int, isi_non_bool, isi_non_str, isi_non_tuple, isi_bl_int, isi_bl_bool, isi_bl_str, isi_bl_tuple, isi_int_int, isi_int_bool, isi_int_str, isi_int_tuple, isi_str_int, isi_str_bool, isi_str_str, isi_str_tuple, isi_tup_int, isi_tup_bool, isi_tup_str, isi_tup_tuple, isi_lst_int, isi_lst_bool, isi_lst_str, isi_lst_tuple, a5, m1, m2, r, q, List.length_cons, List.length_nil, show (0 + 1 + 1 : Nat) ≤ 16777216 by decide, show (0 + 1 : Nat) ≤ 16777216 by decide]
/-- the law answers True -/
theorem s_law (k : Nat) (l : List Int) : ∃ st, run (k + 9) fe_law [.scr (l.map D.int)] [] = some (.bl true, st) := by
  rw [run_law, law_parts]
  rw [seq_nx (lwa1 (k + 7) l)]
  have ok0 : (⟨cutI l, 0, 0, 0⟩ : Feed).Ok := ⟨Int.le_refl _, Int.le_refl _, cutI_len l⟩
  generalize D.scr (l.map D.int) = s
  obtain ⟨F2, its, q2, ok2, n2, b2⟩ := lwa2 (k + 7) s _ ok0
  rw [seq_nx q2]
  obtain ⟨F3, sheet, fs, so, d, more, q3, ok3, hs, h1, h2⟩ := lwa3 (k + 5) s F2 ok2 [.lst valsMore, .lst its]
  rw [seq_nx q3]
  obtain ⟨F4, its4, e4, e7, q4, ok4, n4, b4⟩ := lwa4 (k + 3) s F3 ok3 (.lst valsMore) its more n2 b2 sheet fs so d hs h1 h2
  rw [show F3.o :: ([DO.lst valsMore, DO.lst its] ++ more) = F3.o :: DO.lst valsMore :: DO.lst its :: more from rfl]
  rw [seq_nx q4]
  obtain ⟨pg, more6, q6⟩ := lwa56 (k + 4) s (.tup [sheet, .tup fs, so, d]) e4 e7 F4.o (.lst valsMore) its4 more n4 b4
  rw [q6]
  rw [seq_nx (lwa7 (k + 5) _ _ _ _ _ _ _ _)]
  exact ⟨_, lwa8 (k + 5) _ _ _ _ _ _ _ _⟩
end DL.P
end
section
namespace DL.P
open PySem PySem.Spec L2 PyProof.Rows
abbrev Ent (K : PySem.W.Frag) (mg : Str → Option Value) (x : Str) (fe : FE) : Prop := ∃ (f : Addr) (fd : FuncData) (qual : Str) (st : Stmt), mg x = some (.ref f) ∧ PySem.W.keepIn K (.ref f) = true ∧ Fun K x qual st f fd ∧ defScope st = fe.sc ∧ defBody st = fe.body ∧ FnScope fe.N fe.ps fe.sc ∧
    ∀ n ks perm, sh x n ks = some perm → KB K fd n ks fe.ps perm
def AllEnt (K : PySem.W.Frag) (mg : Str → Option Value) : List (Str × FE) → Prop
  | [] => True
  | (x, fe) :: r => Ent K mg x fe ∧ AllEnt K mg r
theorem allEnt_at {K : PySem.W.Frag} {mg : Str → Option Value} : ∀ {l : List (Str × FE)}, AllEnt K mg l → ∀ x fe, l.lookup x = some fe → Ent K mg x fe
  | [], _, x, fe, h => by cases h
  | (y, f) :: r, a, x, fe, h => by
    rw [List.lookup_cons] at h
    split at h
    · rename_i e
      cases h
      cases (eq_of_beq e)
      exact a.1
    · exact allEnt_at a.2 x fe h
def AllG (K : PySem.W.Frag) (mg : Str → Option Value) : List (Str × GV) → Prop
  | [] => True
  | (x, v) :: r => GOk2 K mg x v ∧ AllG K mg r
theorem allG_at {K : PySem.W.Frag} {mg : Str → Option Value} : ∀ {l : List (Str × GV)}, AllG K mg l → ∀ x v, l.lookup x = some v → GOk2 K mg x v
  | [], _, x, v, h => by cases h
  | (y, f) :: r, a, x, v, h => by
    rw [List.lookup_cons] at h
    split at h
    · rename_i e
      cases h
      cases (eq_of_beq e)
      exact a.1
    · exact allG_at a.2 x v h
def AllKB (K : PySem.W.Frag) (fd : FuncData) (ps : List Str) : List (Nat × List Str × List Nat) → Prop
  | [] => True
  | (n, ks, perm) :: r => KB K fd n ks ps perm ∧ AllKB K fd ps r
theorem allKB_at {K : PySem.W.Frag} {fd : FuncData} {ps : List Str} : ∀ {l : List (Nat × List Str × List Nat)}, AllKB K fd ps l → ∀ p ∈ l, KB K fd p.1 p.2.1 ps p.2.2
  | [], _, p, h => by cases h
  | q :: r, a, p, h => by
    rcases List.mem_cons.mp h with rfl | h
    · exact a.1
    · exact allKB_at a.2 p h
theorem look_mem {α β : Type} [BEq α] [LawfulBEq α] {a : α} {b : β} : ∀ {l : List (α × β)}, l.lookup a = some b → (a, b) ∈ l
  | [], h => by cases h
  | (y, c) :: r, h => by
    rw [List.lookup_cons] at h
    split at h
    · rename_i e
      cases h
      cases (eq_of_beq e)
      exact List.mem_cons_self
    · exact List.mem_cons_of_mem _ (look_mem h)
theorem kb_of {K : PySem.W.Frag} {fd : FuncData} {ps : List Str} {x : Str} {l : List (Nat × List Str × List Nat)} (e : (shapes.filterMap fun p => if p.1.1 == x then some (p.1.2.1, p.1.2.2, p.2) else none) = l) (h : AllKB K fd ps l) (n : Nat) (ks : List Str) (perm : List Nat) (hs : sh x n ks = some perm) : KB K fd n ks ps perm := by
  have m := look_mem hs
  have m2 : (n, ks, perm) ∈ l := by
    rw [← e, List.mem_filterMap]
    exact ⟨_, m, by simp⟩
  exact allKB_at h _ m2
section
variable {K : PySem.W.Frag} {h : Heap} {mg : Str → Option Value} {f p : Addr} {oc kV dc pm cd ct : Value} {od an : Option Addr} {sl : Array (Option Value)} {n : Nat}
theorem sc_is_number : FnScope fe_is_number.N fe_is_number.ps fe_is_number.sc := ⟨rfl, rfl, rfl, by decide +kernel, rfl, by decide +kernel, by decide +kernel⟩
theorem en_is_number (X : K.In h) (G : h.Ns mainGlobals mg) (a : PySem.W.nsIn K mainGlobals "is_number" = some (some (.ref f)))
    (l : K.lookup f = some ⟨oc, od, .func (PySem.W.fnOf "is_number" "is_number" (defArgs (top 5)) (defBody (top 5)) (defScope (top 5)) .none kV dc pm an cd ct), sl⟩)
    (c : PySem.W.codeIn K cd "is_number" = true) (k : PySem.W.keepIn K (.ref f) = true) : Ent K mg "is_number" fe_is_number :=
  ⟨f, _, _, _, PySem.W.mg_of X G a, k, fun_mk (st := top 5) l c k, rfl, rfl, sc_is_number, kb_of (l := [((1 : Nat), ([] : List Str), ([0] : List Nat)), ((0 : Nat), ([("thing" : Str)] : List Str), ([0] : List Nat))]) (by decide +kernel) ⟨(fun s us ws _ hl hk => match us, ws, hl, hk with | [a], [], _, _ => BindsTo.of_eq rfl), (fun s us ws _ hl hk => match us, ws, hl, hk with | [], [a], _, _ => BindsTo.of_eq rfl), trivial⟩⟩
theorem sc_is_amount : FnScope fe_is_amount.N fe_is_amount.ps fe_is_amount.sc := ⟨rfl, rfl, rfl, by decide +kernel, rfl, by decide +kernel, by decide +kernel⟩
theorem en_is_amount (X : K.In h) (G : h.Ns mainGlobals mg) (a : PySem.W.nsIn K mainGlobals "is_amount" = some (some (.ref f)))
    (l : K.lookup f = some ⟨oc, od, .func (PySem.W.fnOf "is_amount" "is_amount" (defArgs (top 6)) (defBody (top 6)) (defScope (top 6)) .none kV dc pm an cd ct), sl⟩)
    (c : PySem.W.codeIn K cd "is_amount" = true) (k : PySem.W.keepIn K (.ref f) = true) : Ent K mg "is_amount" fe_is_amount :=
  ⟨f, _, _, _, PySem.W.mg_of X G a, k, fun_mk (st := top 6) l c k, rfl, rfl, sc_is_amount, kb_of (l := [((1 : Nat), ([] : List Str), ([0] : List Nat))]) (by decide +kernel) ⟨(fun s us ws _ hl hk => match us, ws, hl, hk with | [a], [], _, _ => BindsTo.of_eq rfl), trivial⟩⟩
theorem sc_is_name : FnScope fe_is_name.N fe_is_name.ps fe_is_name.sc := ⟨rfl, rfl, rfl, by decide +kernel, rfl, by decide +kernel, by decide +kernel⟩
theorem en_is_name (X : K.In h) (G : h.Ns mainGlobals mg) (a : PySem.W.nsIn K mainGlobals "is_name" = some (some (.ref f)))
    (l : K.lookup f = some ⟨oc, od, .func (PySem.W.fnOf "is_name" "is_name" (defArgs (top 7)) (defBody (top 7)) (defScope (top 7)) .none kV dc pm an cd ct), sl⟩)
    (c : PySem.W.codeIn K cd "is_name" = true) (k : PySem.W.keepIn K (.ref f) = true) : Ent K mg "is_name" fe_is_name :=
  ⟨f, _, _, _, PySem.W.mg_of X G a, k, fun_mk (st := top 7) l c k, rfl, rfl, sc_is_name, kb_of (l := [((1 : Nat), ([] : List Str), ([0] : List Nat)), ((0 : Nat), ([("thing" : Str)] : List Str), ([0] : List Nat))]) (by decide +kernel) ⟨(fun s us ws _ hl hk => match us, ws, hl, hk with | [a], [], _, _ => BindsTo.of_eq rfl), (fun s us ws _ hl hk => match us, ws, hl, hk with | [], [a], _, _ => BindsTo.of_eq rfl), trivial⟩⟩
theorem sc_is_word_of : FnScope fe_is_word_of.N fe_is_word_of.ps fe_is_word_of.sc := ⟨rfl, rfl, rfl, by decide +kernel, rfl, by decide +kernel, by decide +kernel⟩
theorem en_is_word_of (X : K.In h) (G : h.Ns mainGlobals mg) (a : PySem.W.nsIn K mainGlobals "is_word_of" = some (some (.ref f)))
    (l : K.lookup f = some ⟨oc, od, .func (PySem.W.fnOf "is_word_of" "is_word_of" (defArgs (top 8)) (defBody (top 8)) (defScope (top 8)) .none kV dc pm an cd ct), sl⟩)
    (c : PySem.W.codeIn K cd "is_word_of" = true) (k : PySem.W.keepIn K (.ref f) = true) : Ent K mg "is_word_of" fe_is_word_of :=
  ⟨f, _, _, _, PySem.W.mg_of X G a, k, fun_mk (st := top 8) l c k, rfl, rfl, sc_is_word_of, kb_of (l := [((2 : Nat), ([] : List Str), ([0, 1] : List Nat))]) (by decide +kernel) ⟨(fun s us ws _ hl hk => match us, ws, hl, hk with | [a, b], [], _, _ => BindsTo.of_eq rfl), trivial⟩⟩
theorem sc_is_place : FnScope fe_is_place.N fe_is_place.ps fe_is_place.sc := ⟨rfl, rfl, rfl, by decide +kernel, rfl, by decide +kernel, by decide +kernel⟩
theorem en_is_place (X : K.In h) (G : h.Ns mainGlobals mg) (a : PySem.W.nsIn K mainGlobals "is_place" = some (some (.ref f)))
    (l : K.lookup f = some ⟨oc, od, .func (PySem.W.fnOf "is_place" "is_place" (defArgs (top 9)) (defBody (top 9)) (defScope (top 9)) .none kV dc pm an cd ct), sl⟩)
    (c : PySem.W.codeIn K cd "is_place" = true) (k : PySem.W.keepIn K (.ref f) = true) : Ent K mg "is_place" fe_is_place :=
  ⟨f, _, _, _, PySem.W.mg_of X G a, k, fun_mk (st := top 9) l c k, rfl, rfl, sc_is_place, kb_of (l := [((1 : Nat), ([] : List Str), ([0] : List Nat)), ((0 : Nat), ([("thing" : Str)] : List Str), ([0] : List Nat))]) (by decide +kernel) ⟨(fun s us ws _ hl hk => match us, ws, hl, hk with | [a], [], _, _ => BindsTo.of_eq rfl), (fun s us ws _ hl hk => match us, ws, hl, hk with | [], [a], _, _ => BindsTo.of_eq rfl), trivial⟩⟩
theorem sc_is_row : FnScope fe_is_row.N fe_is_row.ps fe_is_row.sc := ⟨rfl, rfl, rfl, by decide +kernel, rfl, by decide +kernel, by decide +kernel⟩
theorem en_is_row (X : K.In h) (G : h.Ns mainGlobals mg) (a : PySem.W.nsIn K mainGlobals "is_row" = some (some (.ref f)))
    (l : K.lookup f = some ⟨oc, od, .func (PySem.W.fnOf "is_row" "is_row" (defArgs (top 10)) (defBody (top 10)) (defScope (top 10)) .none kV dc pm an cd ct), sl⟩)
    (c : PySem.W.codeIn K cd "is_row" = true) (k : PySem.W.keepIn K (.ref f) = true) : Ent K mg "is_row" fe_is_row :=
  ⟨f, _, _, _, PySem.W.mg_of X G a, k, fun_mk (st := top 10) l c k, rfl, rfl, sc_is_row, kb_of (l := [((1 : Nat), ([] : List Str), ([0] : List Nat)), ((0 : Nat), ([("thing" : Str)] : List Str), ([0] : List Nat))]) (by decide +kernel) ⟨(fun s us ws _ hl hk => match us, ws, hl, hk with | [a], [], _, _ => BindsTo.of_eq rfl), (fun s us ws _ hl hk => match us, ws, hl, hk with | [], [a], _, _ => BindsTo.of_eq rfl), trivial⟩⟩
theorem sc_is_finding : FnScope fe_is_finding.N fe_is_finding.ps fe_is_finding.sc := ⟨rfl, rfl, rfl, by decide +kernel, rfl, by decide +kernel, by decide +kernel⟩
theorem en_is_finding (X : K.In h) (G : h.Ns mainGlobals mg) (a : PySem.W.nsIn K mainGlobals "is_finding" = some (some (.ref f)))
    (l : K.lookup f = some ⟨oc, od, .func (PySem.W.fnOf "is_finding" "is_finding" (defArgs (top 11)) (defBody (top 11)) (defScope (top 11)) .none kV dc pm an cd ct), sl⟩)
    (c : PySem.W.codeIn K cd "is_finding" = true) (k : PySem.W.keepIn K (.ref f) = true) : Ent K mg "is_finding" fe_is_finding :=
  ⟨f, _, _, _, PySem.W.mg_of X G a, k, fun_mk (st := top 11) l c k, rfl, rfl, sc_is_finding, kb_of (l := [((1 : Nat), ([] : List Str), ([0] : List Nat)), ((0 : Nat), ([("thing" : Str)] : List Str), ([0] : List Nat))]) (by decide +kernel) ⟨(fun s us ws _ hl hk => match us, ws, hl, hk with | [a], [], _, _ => BindsTo.of_eq rfl), (fun s us ws _ hl hk => match us, ws, hl, hk with | [], [a], _, _ => BindsTo.of_eq rfl), trivial⟩⟩
theorem sc__law_feed : FnScope fe__law_feed.N fe__law_feed.ps fe__law_feed.sc := ⟨rfl, rfl, rfl, by decide +kernel, rfl, by decide +kernel, by decide +kernel⟩
theorem en__law_feed (X : K.In h) (G : h.Ns mainGlobals mg) (a : PySem.W.nsIn K mainGlobals "_law_feed" = some (some (.ref f)))
    (l : K.lookup f = some ⟨oc, od, .func (PySem.W.fnOf "_law_feed" "_law_feed" (defArgs (top 13)) (defBody (top 13)) (defScope (top 13)) .none kV dc pm an cd ct), sl⟩)
    (c : PySem.W.codeIn K cd "_law_feed" = true) (k : PySem.W.keepIn K (.ref f) = true) : Ent K mg "_law_feed" fe__law_feed :=
  ⟨f, _, _, _, PySem.W.mg_of X G a, k, fun_mk (st := top 13) l c k, rfl, rfl, sc__law_feed, kb_of (l := [((1 : Nat), ([] : List Str), ([0] : List Nat))]) (by decide +kernel) ⟨(fun s us ws _ hl hk => match us, ws, hl, hk with | [a], [], _, _ => BindsTo.of_eq rfl), trivial⟩⟩
theorem sc__law_draw : FnScope fe__law_draw.N fe__law_draw.ps fe__law_draw.sc := ⟨rfl, rfl, rfl, by decide +kernel, rfl, by decide +kernel, by decide +kernel⟩
theorem en__law_draw (X : K.In h) (G : h.Ns mainGlobals mg) (a : PySem.W.nsIn K mainGlobals "_law_draw" = some (some (.ref f)))
    (l : K.lookup f = some ⟨oc, od, .func (PySem.W.fnOf "_law_draw" "_law_draw" (defArgs (top 14)) (defBody (top 14)) (defScope (top 14)) .none kV dc pm an cd ct), sl⟩)
    (c : PySem.W.codeIn K cd "_law_draw" = true) (k : PySem.W.keepIn K (.ref f) = true) : Ent K mg "_law_draw" fe__law_draw :=
  ⟨f, _, _, _, PySem.W.mg_of X G a, k, fun_mk (st := top 14) l c k, rfl, rfl, sc__law_draw, kb_of (l := [((2 : Nat), ([] : List Str), ([0, 1] : List Nat))]) (by decide +kernel) ⟨(fun s us ws _ hl hk => match us, ws, hl, hk with | [a, b], [], _, _ => BindsTo.of_eq rfl), trivial⟩⟩
theorem sc__law_count : FnScope fe__law_count.N fe__law_count.ps fe__law_count.sc := ⟨rfl, rfl, rfl, by decide +kernel, rfl, by decide +kernel, by decide +kernel⟩
theorem en__law_count (X : K.In h) (G : h.Ns mainGlobals mg) (a : PySem.W.nsIn K mainGlobals "_law_count" = some (some (.ref f)))
    (l : K.lookup f = some ⟨oc, od, .func (PySem.W.fnOf "_law_count" "_law_count" (defArgs (top 15)) (defBody (top 15)) (defScope (top 15)) .none kV dc pm an cd ct), sl⟩)
    (c : PySem.W.codeIn K cd "_law_count" = true) (k : PySem.W.keepIn K (.ref f) = true) : Ent K mg "_law_count" fe__law_count :=
  ⟨f, _, _, _, PySem.W.mg_of X G a, k, fun_mk (st := top 15) l c k, rfl, rfl, sc__law_count, kb_of (l := [((1 : Nat), ([] : List Str), ([0] : List Nat))]) (by decide +kernel) ⟨(fun s us ws _ hl hk => match us, ws, hl, hk with | [a], [], _, _ => BindsTo.of_eq rfl), trivial⟩⟩
theorem sc__law_named : FnScope fe__law_named.N fe__law_named.ps fe__law_named.sc := ⟨rfl, rfl, rfl, by decide +kernel, rfl, by decide +kernel, by decide +kernel⟩
theorem en__law_named (X : K.In h) (G : h.Ns mainGlobals mg) (a : PySem.W.nsIn K mainGlobals "_law_named" = some (some (.ref f)))
    (l : K.lookup f = some ⟨oc, od, .func (PySem.W.fnOf "_law_named" "_law_named" (defArgs (top 16)) (defBody (top 16)) (defScope (top 16)) .none kV dc pm an cd ct), sl⟩)
    (c : PySem.W.codeIn K cd "_law_named" = true) (k : PySem.W.keepIn K (.ref f) = true) : Ent K mg "_law_named" fe__law_named :=
  ⟨f, _, _, _, PySem.W.mg_of X G a, k, fun_mk (st := top 16) l c k, rfl, rfl, sc__law_named, kb_of (l := [((1 : Nat), ([] : List Str), ([0] : List Nat))]) (by decide +kernel) ⟨(fun s us ws _ hl hk => match us, ws, hl, hk with | [a], [], _, _ => BindsTo.of_eq rfl), trivial⟩⟩
theorem sc__law_placed : FnScope fe__law_placed.N fe__law_placed.ps fe__law_placed.sc := ⟨rfl, rfl, rfl, by decide +kernel, rfl, by decide +kernel, by decide +kernel⟩
theorem en__law_placed (X : K.In h) (G : h.Ns mainGlobals mg) (a : PySem.W.nsIn K mainGlobals "_law_placed" = some (some (.ref f)))
    (l : K.lookup f = some ⟨oc, od, .func (PySem.W.fnOf "_law_placed" "_law_placed" (defArgs (top 17)) (defBody (top 17)) (defScope (top 17)) .none kV dc pm an cd ct), sl⟩)
    (c : PySem.W.codeIn K cd "_law_placed" = true) (k : PySem.W.keepIn K (.ref f) = true) : Ent K mg "_law_placed" fe__law_placed :=
  ⟨f, _, _, _, PySem.W.mg_of X G a, k, fun_mk (st := top 17) l c k, rfl, rfl, sc__law_placed, kb_of (l := [((1 : Nat), ([] : List Str), ([0] : List Nat))]) (by decide +kernel) ⟨(fun s us ws _ hl hk => match us, ws, hl, hk with | [a], [], _, _ => BindsTo.of_eq rfl), trivial⟩⟩
theorem sc__law_formed : FnScope fe__law_formed.N fe__law_formed.ps fe__law_formed.sc := ⟨rfl, rfl, rfl, by decide +kernel, rfl, by decide +kernel, by decide +kernel⟩
theorem en__law_formed (X : K.In h) (G : h.Ns mainGlobals mg) (a : PySem.W.nsIn K mainGlobals "_law_formed" = some (some (.ref f)))
    (l : K.lookup f = some ⟨oc, od, .func (PySem.W.fnOf "_law_formed" "_law_formed" (defArgs (top 18)) (defBody (top 18)) (defScope (top 18)) .none kV dc pm an cd ct), sl⟩)
    (c : PySem.W.codeIn K cd "_law_formed" = true) (k : PySem.W.keepIn K (.ref f) = true) : Ent K mg "_law_formed" fe__law_formed :=
  ⟨f, _, _, _, PySem.W.mg_of X G a, k, fun_mk (st := top 18) l c k, rfl, rfl, sc__law_formed, kb_of (l := [((1 : Nat), ([] : List Str), ([0] : List Nat))]) (by decide +kernel) ⟨(fun s us ws _ hl hk => match us, ws, hl, hk with | [a], [], _, _ => BindsTo.of_eq rfl), trivial⟩⟩
theorem sc__law_found : FnScope fe__law_found.N fe__law_found.ps fe__law_found.sc := ⟨rfl, rfl, rfl, by decide +kernel, rfl, by decide +kernel, by decide +kernel⟩
theorem en__law_found (X : K.In h) (G : h.Ns mainGlobals mg) (a : PySem.W.nsIn K mainGlobals "_law_found" = some (some (.ref f)))
    (l : K.lookup f = some ⟨oc, od, .func (PySem.W.fnOf "_law_found" "_law_found" (defArgs (top 19)) (defBody (top 19)) (defScope (top 19)) .none kV dc pm an cd ct), sl⟩)
    (c : PySem.W.codeIn K cd "_law_found" = true) (k : PySem.W.keepIn K (.ref f) = true) : Ent K mg "_law_found" fe__law_found :=
  ⟨f, _, _, _, PySem.W.mg_of X G a, k, fun_mk (st := top 19) l c k, rfl, rfl, sc__law_found, kb_of (l := [((1 : Nat), ([] : List Str), ([0] : List Nat))]) (by decide +kernel) ⟨(fun s us ws _ hl hk => match us, ws, hl, hk with | [a], [], _, _ => BindsTo.of_eq rfl), trivial⟩⟩
theorem sc__law_book : FnScope fe__law_book.N fe__law_book.ps fe__law_book.sc := ⟨rfl, rfl, rfl, by decide +kernel, rfl, by decide +kernel, by decide +kernel⟩
theorem en__law_book (X : K.In h) (G : h.Ns mainGlobals mg) (a : PySem.W.nsIn K mainGlobals "_law_book" = some (some (.ref f)))
    (l : K.lookup f = some ⟨oc, od, .func (PySem.W.fnOf "_law_book" "_law_book" (defArgs (top 20)) (defBody (top 20)) (defScope (top 20)) .none kV dc pm an cd ct), sl⟩)
    (c : PySem.W.codeIn K cd "_law_book" = true) (k : PySem.W.keepIn K (.ref f) = true) : Ent K mg "_law_book" fe__law_book :=
  ⟨f, _, _, _, PySem.W.mg_of X G a, k, fun_mk (st := top 20) l c k, rfl, rfl, sc__law_book, kb_of (l := [((2 : Nat), ([] : List Str), ([0, 1] : List Nat))]) (by decide +kernel) ⟨(fun s us ws _ hl hk => match us, ws, hl, hk with | [a, b], [], _, _ => BindsTo.of_eq rfl), trivial⟩⟩
theorem sc__law_notes : FnScope fe__law_notes.N fe__law_notes.ps fe__law_notes.sc := ⟨rfl, rfl, rfl, by decide +kernel, rfl, by decide +kernel, by decide +kernel⟩
theorem en__law_notes (X : K.In h) (G : h.Ns mainGlobals mg) (a : PySem.W.nsIn K mainGlobals "_law_notes" = some (some (.ref f)))
    (l : K.lookup f = some ⟨oc, od, .func (PySem.W.fnOf "_law_notes" "_law_notes" (defArgs (top 21)) (defBody (top 21)) (defScope (top 21)) .none kV dc pm an cd ct), sl⟩)
    (c : PySem.W.codeIn K cd "_law_notes" = true) (k : PySem.W.keepIn K (.ref f) = true) : Ent K mg "_law_notes" fe__law_notes :=
  ⟨f, _, _, _, PySem.W.mg_of X G a, k, fun_mk (st := top 21) l c k, rfl, rfl, sc__law_notes, kb_of (l := [((2 : Nat), ([] : List Str), ([0, 1] : List Nat))]) (by decide +kernel) ⟨(fun s us ws _ hl hk => match us, ws, hl, hk with | [a, b], [], _, _ => BindsTo.of_eq rfl), trivial⟩⟩
theorem sc__law_case : FnScope fe__law_case.N fe__law_case.ps fe__law_case.sc := ⟨rfl, rfl, rfl, by decide +kernel, rfl, by decide +kernel, by decide +kernel⟩
theorem en__law_case (X : K.In h) (G : h.Ns mainGlobals mg) (a : PySem.W.nsIn K mainGlobals "_law_case" = some (some (.ref f)))
    (l : K.lookup f = some ⟨oc, od, .func (PySem.W.fnOf "_law_case" "_law_case" (defArgs (top 22)) (defBody (top 22)) (defScope (top 22)) .none kV dc pm an cd ct), sl⟩)
    (c : PySem.W.codeIn K cd "_law_case" = true) (k : PySem.W.keepIn K (.ref f) = true) : Ent K mg "_law_case" fe__law_case :=
  ⟨f, _, _, _, PySem.W.mg_of X G a, k, fun_mk (st := top 22) l c k, rfl, rfl, sc__law_case, kb_of (l := [((2 : Nat), ([] : List Str), ([0, 1] : List Nat))]) (by decide +kernel) ⟨(fun s us ws _ hl hk => match us, ws, hl, hk with | [a, b], [], _, _ => BindsTo.of_eq rfl), trivial⟩⟩
theorem sc__law_odd : FnScope fe__law_odd.N fe__law_odd.ps fe__law_odd.sc := ⟨rfl, rfl, rfl, by decide +kernel, rfl, by decide +kernel, by decide +kernel⟩
theorem en__law_odd (X : K.In h) (G : h.Ns mainGlobals mg) (a : PySem.W.nsIn K mainGlobals "_law_odd" = some (some (.ref f)))
    (l : K.lookup f = some ⟨oc, od, .func (PySem.W.fnOf "_law_odd" "_law_odd" (defArgs (top 23)) (defBody (top 23)) (defScope (top 23)) .none kV dc pm an cd ct), sl⟩)
    (c : PySem.W.codeIn K cd "_law_odd" = true) (k : PySem.W.keepIn K (.ref f) = true) : Ent K mg "_law_odd" fe__law_odd :=
  ⟨f, _, _, _, PySem.W.mg_of X G a, k, fun_mk (st := top 23) l c k, rfl, rfl, sc__law_odd, kb_of (l := [((1 : Nat), ([] : List Str), ([0] : List Nat))]) (by decide +kernel) ⟨(fun s us ws _ hl hk => match us, ws, hl, hk with | [a], [], _, _ => BindsTo.of_eq rfl), trivial⟩⟩
theorem sc__law_bent : FnScope fe__law_bent.N fe__law_bent.ps fe__law_bent.sc := ⟨rfl, rfl, rfl, by decide +kernel, rfl, by decide +kernel, by decide +kernel⟩
theorem en__law_bent (X : K.In h) (G : h.Ns mainGlobals mg) (a : PySem.W.nsIn K mainGlobals "_law_bent" = some (some (.ref f)))
    (l : K.lookup f = some ⟨oc, od, .func (PySem.W.fnOf "_law_bent" "_law_bent" (defArgs (top 24)) (defBody (top 24)) (defScope (top 24)) .none kV dc pm an cd ct), sl⟩)
    (c : PySem.W.codeIn K cd "_law_bent" = true) (k : PySem.W.keepIn K (.ref f) = true) : Ent K mg "_law_bent" fe__law_bent :=
  ⟨f, _, _, _, PySem.W.mg_of X G a, k, fun_mk (st := top 24) l c k, rfl, rfl, sc__law_bent, kb_of (l := [((2 : Nat), ([] : List Str), ([0, 1] : List Nat))]) (by decide +kernel) ⟨(fun s us ws _ hl hk => match us, ws, hl, hk with | [a, b], [], _, _ => BindsTo.of_eq rfl), trivial⟩⟩
theorem sc__law_right : FnScope fe__law_right.N fe__law_right.ps fe__law_right.sc := ⟨rfl, rfl, rfl, by decide +kernel, rfl, by decide +kernel, by decide +kernel⟩
theorem en__law_right (X : K.In h) (G : h.Ns mainGlobals mg) (a : PySem.W.nsIn K mainGlobals "_law_right" = some (some (.ref f)))
    (l : K.lookup f = some ⟨oc, od, .func (PySem.W.fnOf "_law_right" "_law_right" (defArgs (top 25)) (defBody (top 25)) (defScope (top 25)) .none kV dc pm an cd ct), sl⟩)
    (c : PySem.W.codeIn K cd "_law_right" = true) (k : PySem.W.keepIn K (.ref f) = true) : Ent K mg "_law_right" fe__law_right :=
  ⟨f, _, _, _, PySem.W.mg_of X G a, k, fun_mk (st := top 25) l c k, rfl, rfl, sc__law_right, kb_of (l := [((1 : Nat), ([] : List Str), ([0] : List Nat))]) (by decide +kernel) ⟨(fun s us ws _ hl hk => match us, ws, hl, hk with | [a], [], _, _ => BindsTo.of_eq rfl), trivial⟩⟩
theorem sc__law_values : FnScope fe__law_values.N fe__law_values.ps fe__law_values.sc := ⟨rfl, rfl, rfl, by decide +kernel, rfl, by decide +kernel, by decide +kernel⟩
theorem en__law_values (X : K.In h) (G : h.Ns mainGlobals mg) (a : PySem.W.nsIn K mainGlobals "_law_values" = some (some (.ref f)))
    (l : K.lookup f = some ⟨oc, od, .func (PySem.W.fnOf "_law_values" "_law_values" (defArgs (top 26)) (defBody (top 26)) (defScope (top 26)) .none kV dc pm an cd ct), sl⟩)
    (c : PySem.W.codeIn K cd "_law_values" = true) (k : PySem.W.keepIn K (.ref f) = true) : Ent K mg "_law_values" fe__law_values :=
  ⟨f, _, _, _, PySem.W.mg_of X G a, k, fun_mk (st := top 26) l c k, rfl, rfl, sc__law_values, kb_of (l := [((0 : Nat), ([] : List Str), ([] : List Nat))]) (by decide +kernel) ⟨(fun s us ws _ hl hk => match us, ws, hl, hk with | [], [], _, _ => BindsTo.of_eq rfl), trivial⟩⟩
theorem sc_law : FnScope fe_law.N fe_law.ps fe_law.sc := ⟨rfl, rfl, rfl, by decide +kernel, rfl, by decide +kernel, by decide +kernel⟩
theorem en_law (X : K.In h) (G : h.Ns mainGlobals mg) (a : PySem.W.nsIn K mainGlobals "law" = some (some (.ref f)))
    (l : K.lookup f = some ⟨oc, od, .func (PySem.W.fnOf "law" "law" (defArgs (top 27)) (defBody (top 27)) (defScope (top 27)) .none kV dc pm an cd ct), sl⟩)
    (c : PySem.W.codeIn K cd "law" = true) (k : PySem.W.keepIn K (.ref f) = true) : Ent K mg "law" fe_law :=
  ⟨f, _, _, _, PySem.W.mg_of X G a, k, fun_mk (st := top 27) l c k, rfl, rfl, sc_law, kb_of (l := []) (by decide +kernel) trivial⟩
theorem gl_LETTERS {t} (X : K.In h) (G : h.Ns mainGlobals mg) (a : PySem.W.nsIn K mainGlobals "LETTERS" = some (some (.str "abcdefghijklmnopqrstuvwxyz" t))) : GOk2 K mg "LETTERS" (.val (.str "abcdefghijklmnopqrstuvwxyz")) := ⟨.str "abcdefghijklmnopqrstuvwxyz", _, PySem.W.mg_of X G a, ⟨t, rfl⟩, fun _ _ => .str _⟩
theorem gl_LONGEST {t} (X : K.In h) (G : h.Ns mainGlobals mg) (a : PySem.W.nsIn K mainGlobals "LONGEST" = some (some (.int 8 t))) : GOk2 K mg "LONGEST" (.val (.int 8)) := ⟨.int 8, _, PySem.W.mg_of X G a, ⟨t, rfl⟩, fun _ _ => .int _⟩
theorem gl_PLACE_KINDS {t0 t1} (X : K.In h) (G : h.Ns mainGlobals mg) (a : PySem.W.nsIn K mainGlobals "PLACE_KINDS" = some (some (.ref p))) (l : K.lookup p = some ⟨.type "tuple", od, .seq #[.str "heap" t0, .str "pipe" t1] n, sl⟩) : GOk2 K mg "PLACE_KINDS" (.val (.tup [.str "heap", .str "pipe"])) :=
  ⟨.ref p, _, PySem.W.mg_of X G a, rfl, fun _ _ => .tupK (vs := [.str "heap", .str "pipe"]) (.inr ⟨_, _, _, l, rfl, rfl, (by show (2 : Nat) ≤ sizeLine; decide), .cons ⟨t0, rfl⟩ (.cons ⟨t1, rfl⟩ (.nil))⟩) (.cons (.str _) (.cons (.str _) (.nil)))⟩
theorem gl_FINDING_WORDS {t0 t1} (X : K.In h) (G : h.Ns mainGlobals mg) (a : PySem.W.nsIn K mainGlobals "FINDING_WORDS" = some (some (.ref p))) (l : K.lookup p = some ⟨.type "tuple", od, .seq #[.str "bad" t0, .str "clean" t1] n, sl⟩) : GOk2 K mg "FINDING_WORDS" (.val (.tup [.str "bad", .str "clean"])) :=
  ⟨.ref p, _, PySem.W.mg_of X G a, rfl, fun _ _ => .tupK (vs := [.str "bad", .str "clean"]) (.inr ⟨_, _, _, l, rfl, rfl, (by show (2 : Nat) ≤ sizeLine; decide), .cons ⟨t0, rfl⟩ (.cons ⟨t1, rfl⟩ (.nil))⟩) (.cons (.str _) (.cons (.str _) (.nil)))⟩
theorem gl_all (X : K.In h) (G : h.Ns mainGlobals mg) (z : PySem.W.nsIn K mainGlobals "all" = some none) : GOk2 K mg "all" (.blt "all") := ⟨PySem.W.mg_none_of X G z, by first | rfl | decide +kernel | kernel_rfl⟩
theorem gl_isinstance (X : K.In h) (G : h.Ns mainGlobals mg) (z : PySem.W.nsIn K mainGlobals "isinstance" = some none) : GOk2 K mg "isinstance" (.blt "isinstance") := ⟨PySem.W.mg_none_of X G z, by first | rfl | decide +kernel | kernel_rfl⟩
theorem gl_len (X : K.In h) (G : h.Ns mainGlobals mg) (z : PySem.W.nsIn K mainGlobals "len" = some none) : GOk2 K mg "len" (.blt "len") := ⟨PySem.W.mg_none_of X G z, by first | rfl | decide +kernel | kernel_rfl⟩
theorem gl_max (X : K.In h) (G : h.Ns mainGlobals mg) (z : PySem.W.nsIn K mainGlobals "max" = some none) : GOk2 K mg "max" (.blt "max") := ⟨PySem.W.mg_none_of X G z, by first | rfl | decide +kernel | kernel_rfl⟩
theorem gl_min (X : K.In h) (G : h.Ns mainGlobals mg) (z : PySem.W.nsIn K mainGlobals "min" = some none) : GOk2 K mg "min" (.blt "min") := ⟨PySem.W.mg_none_of X G z, by first | rfl | decide +kernel | kernel_rfl⟩
theorem gl_ord (X : K.In h) (G : h.Ns mainGlobals mg) (z : PySem.W.nsIn K mainGlobals "ord" = some none) : GOk2 K mg "ord" (.blt "ord") := ⟨PySem.W.mg_none_of X G z, by first | rfl | decide +kernel | kernel_rfl⟩
theorem gl_repr (X : K.In h) (G : h.Ns mainGlobals mg) (z : PySem.W.nsIn K mainGlobals "repr" = some none) : GOk2 K mg "repr" (.blt "repr") := ⟨PySem.W.mg_none_of X G z, by first | rfl | decide +kernel | kernel_rfl⟩
theorem gl_sorted (X : K.In h) (G : h.Ns mainGlobals mg) (z : PySem.W.nsIn K mainGlobals "sorted" = some none) : GOk2 K mg "sorted" (.blt "sorted") := ⟨PySem.W.mg_none_of X G z, by first | rfl | decide +kernel | kernel_rfl⟩
theorem gl_bool (X : K.In h) (G : h.Ns mainGlobals mg) (z : PySem.W.nsIn K mainGlobals "bool" = some none) : GOk2 K mg "bool" (.typ "bool") := ⟨PySem.W.mg_none_of X G z, by first | rfl | decide +kernel | kernel_rfl⟩
theorem gl_dict (X : K.In h) (G : h.Ns mainGlobals mg) (z : PySem.W.nsIn K mainGlobals "dict" = some none) : GOk2 K mg "dict" (.typ "dict") := ⟨PySem.W.mg_none_of X G z, by first | rfl | decide +kernel | kernel_rfl⟩
theorem gl_int (X : K.In h) (G : h.Ns mainGlobals mg) (z : PySem.W.nsIn K mainGlobals "int" = some none) : GOk2 K mg "int" (.typ "int") := ⟨PySem.W.mg_none_of X G z, by first | rfl | decide +kernel | kernel_rfl⟩
theorem gl_list (X : K.In h) (G : h.Ns mainGlobals mg) (z : PySem.W.nsIn K mainGlobals "list" = some none) : GOk2 K mg "list" (.typ "list") := ⟨PySem.W.mg_none_of X G z, by first | rfl | decide +kernel | kernel_rfl⟩
theorem gl_range (X : K.In h) (G : h.Ns mainGlobals mg) (z : PySem.W.nsIn K mainGlobals "range" = some none) : GOk2 K mg "range" (.typ "range") := ⟨PySem.W.mg_none_of X G z, by first | rfl | decide +kernel | kernel_rfl⟩
theorem gl_str (X : K.In h) (G : h.Ns mainGlobals mg) (z : PySem.W.nsIn K mainGlobals "str" = some none) : GOk2 K mg "str" (.typ "str") := ⟨PySem.W.mg_none_of X G z, by first | rfl | decide +kernel | kernel_rfl⟩
theorem gl_tuple (X : K.In h) (G : h.Ns mainGlobals mg) (z : PySem.W.nsIn K mainGlobals "tuple" = some none) : GOk2 K mg "tuple" (.typ "tuple") := ⟨PySem.W.mg_none_of X G z, by first | rfl | decide +kernel | kernel_rfl⟩
end
theorem law_walk {P : Program} {w : World} {K : PySem.W.Frag} {h : Heap} {mg : Str → Option Value} {fa f : Addr} {oc kV dc pm cd ct : Value} {od an : Option Addr} {sl : Array (Option Value)} (X : K.In h) (G : h.Ns mainGlobals mg) (hfa : mg "law" = some (.ref fa))
    (a : PySem.W.nsIn K mainGlobals "law" = some (some (.ref f)))
    (l : K.lookup f = some ⟨oc, od, .func (PySem.W.fnOf "law" "law" (defArgs (top 27)) (defBody (top 27)) (defScope (top 27)) .none kV dc pm an cd ct), sl⟩)
    (c : PySem.W.codeIn K cd "law" = true) (k : PySem.W.keepIn K (.ref f) = true) (hT : AllEnt K mg T) (hG : AllG K mg Gs) :
    ∃ fd : FuncData, (∀ (s : Shared) (u : Value), BindsTo s fd ⟨[u], []⟩ [(("_law_script" : Str), u)]) ∧ ∀ base : Heap, K.In base → base.Ns mainGlobals mg → FnG P w K mg base CX0 13 fa fd [("_law_script" : Str)] (spO K 1 (run 12 fe_law)) := by
  have e := hfa.symm.trans (PySem.W.mg_of X G a)
  cases e
  have F := fun_mk (st := top 27) l c k
  refine ⟨PySem.W.fnOf "law" "law" (defArgs (top 27)) (defBody (top 27)) (defScope (top 27)) .none kV dc pm an cd ct, fun s u => .of_eq rfl, fun base _ _ => ?_⟩
  exact fnG_ev (fe := fe_law) F rfl rfl sc_law 100 (mod_ok (T := T) (sh := sh) (G := DL.P.G) (mu := mu) (fuel := 100) (allG_at hG) ⟨allEnt_at hT⟩ 12)
end DL.P
end
section
open PySem PySem.W PyProof.Rows
set_option maxRecDepth 100000 in
set_option maxHeartbeats 0 in
theorem PySem.Challenge.cw_lotback_k01_kinds_told_holds : PySem.Challenge.rw_lotback_k01_kinds_told.Holds := by
  w_on; o_law; k_head; (case hw => w_witness2)
  k_fill
  refine DL.walkD (l := PySem.Challenge.rw_lotback_k01_kinds_told) (k := 13) (x := ("_law_script" : Str)) (g := DL.P.run 12 DL.P.fe_law) rfl (by decide) rfl ⟨rfl, by decide, by decide⟩ (fun w h Y => PySem.W.kIn_of Y) ?F (fun ns _ _ => DL.P.s_law 3 ns)
  case F =>
    intro w mg fa h KX G hmg
    refine' DL.P.law_walk KX G hmg ?a ?l ?c ?k ?T ?G
    (case a => k_is); (case l => k_is); (case c => k_is); (case k => k_is)
    case T =>
      refine ⟨?e_is_number, ?e_is_amount, ?e_is_name, ?e_is_word_of, ?e_is_place, ?e_is_row, ?e_is_finding, ?e__law_feed, ?e__law_draw, ?e__law_count, ?e__law_named, ?e__law_placed, ?e__law_formed, ?e__law_found, ?e__law_book, ?e__law_notes, ?e__law_case, ?e__law_odd, ?e__law_bent, ?e__law_right, ?e__law_values, ?e_law, trivial⟩
      (case e_is_number => refine' DL.P.en_is_number KX G ?a ?l ?c ?k; (case a => k_is); (case l => k_is); (case c => k_is); (case k => k_is))
      (case e_is_amount => refine' DL.P.en_is_amount KX G ?a ?l ?c ?k; (case a => k_is); (case l => k_is); (case c => k_is); (case k => k_is))
      (case e_is_name => refine' DL.P.en_is_name KX G ?a ?l ?c ?k; (case a => k_is); (case l => k_is); (case c => k_is); (case k => k_is))
      (case e_is_word_of => refine' DL.P.en_is_word_of KX G ?a ?l ?c ?k; (case a => k_is); (case l => k_is); (case c => k_is); (case k => k_is))
      (case e_is_place => refine' DL.P.en_is_place KX G ?a ?l ?c ?k; (case a => k_is); (case l => k_is); (case c => k_is); (case k => k_is))
      (case e_is_row => refine' DL.P.en_is_row KX G ?a ?l ?c ?k; (case a => k_is); (case l => k_is); (case c => k_is); (case k => k_is))
      (case e_is_finding => refine' DL.P.en_is_finding KX G ?a ?l ?c ?k; (case a => k_is); (case l => k_is); (case c => k_is); (case k => k_is))
      (case e__law_feed => refine' DL.P.en__law_feed KX G ?a ?l ?c ?k; (case a => k_is); (case l => k_is); (case c => k_is); (case k => k_is))
      (case e__law_draw => refine' DL.P.en__law_draw KX G ?a ?l ?c ?k; (case a => k_is); (case l => k_is); (case c => k_is); (case k => k_is))
      (case e__law_count => refine' DL.P.en__law_count KX G ?a ?l ?c ?k; (case a => k_is); (case l => k_is); (case c => k_is); (case k => k_is))
      (case e__law_named => refine' DL.P.en__law_named KX G ?a ?l ?c ?k; (case a => k_is); (case l => k_is); (case c => k_is); (case k => k_is))
      (case e__law_placed => refine' DL.P.en__law_placed KX G ?a ?l ?c ?k; (case a => k_is); (case l => k_is); (case c => k_is); (case k => k_is))
      (case e__law_formed => refine' DL.P.en__law_formed KX G ?a ?l ?c ?k; (case a => k_is); (case l => k_is); (case c => k_is); (case k => k_is))
      (case e__law_found => refine' DL.P.en__law_found KX G ?a ?l ?c ?k; (case a => k_is); (case l => k_is); (case c => k_is); (case k => k_is))
      (case e__law_book => refine' DL.P.en__law_book KX G ?a ?l ?c ?k; (case a => k_is); (case l => k_is); (case c => k_is); (case k => k_is))
      (case e__law_notes => refine' DL.P.en__law_notes KX G ?a ?l ?c ?k; (case a => k_is); (case l => k_is); (case c => k_is); (case k => k_is))
      (case e__law_case => refine' DL.P.en__law_case KX G ?a ?l ?c ?k; (case a => k_is); (case l => k_is); (case c => k_is); (case k => k_is))
      (case e__law_odd => refine' DL.P.en__law_odd KX G ?a ?l ?c ?k; (case a => k_is); (case l => k_is); (case c => k_is); (case k => k_is))
      (case e__law_bent => refine' DL.P.en__law_bent KX G ?a ?l ?c ?k; (case a => k_is); (case l => k_is); (case c => k_is); (case k => k_is))
      (case e__law_right => refine' DL.P.en__law_right KX G ?a ?l ?c ?k; (case a => k_is); (case l => k_is); (case c => k_is); (case k => k_is))
      (case e__law_values => refine' DL.P.en__law_values KX G ?a ?l ?c ?k; (case a => k_is); (case l => k_is); (case c => k_is); (case k => k_is))
      (case e_law => refine' DL.P.en_law KX G ?a ?l ?c ?k; (case a => k_is); (case l => k_is); (case c => k_is); (case k => k_is))
    case G =>
      refine ⟨?g_LETTERS, ?g_LONGEST, ?g_PLACE_KINDS, ?g_FINDING_WORDS, trivial, trivial, trivial, trivial, trivial, trivial, trivial, trivial, trivial, trivial, trivial, trivial, trivial, trivial, trivial, trivial, trivial, trivial, trivial, trivial, trivial, trivial, ?g_all, ?g_isinstance, ?g_len, ?g_max, ?g_min, ?g_ord, ?g_repr, ?g_sorted, ?g_bool, ?g_dict, ?g_int, ?g_list, ?g_range, ?g_str, ?g_tuple, trivial⟩
      (case g_LETTERS => refine' DL.P.gl_LETTERS KX G ?a; (case a => k_is))
      (case g_LONGEST => refine' DL.P.gl_LONGEST KX G ?a; (case a => k_is))
      (case g_PLACE_KINDS => refine' DL.P.gl_PLACE_KINDS KX G ?a ?l; (case a => k_is); (case l => k_is))
      (case g_FINDING_WORDS => refine' DL.P.gl_FINDING_WORDS KX G ?a ?l; (case a => k_is); (case l => k_is))
      (case g_all => refine' DL.P.gl_all KX G ?z; (case z => k_is))
      (case g_isinstance => refine' DL.P.gl_isinstance KX G ?z; (case z => k_is))
      (case g_len => refine' DL.P.gl_len KX G ?z; (case z => k_is))
      (case g_max => refine' DL.P.gl_max KX G ?z; (case z => k_is))
      (case g_min => refine' DL.P.gl_min KX G ?z; (case z => k_is))
      (case g_ord => refine' DL.P.gl_ord KX G ?z; (case z => k_is))
      (case g_repr => refine' DL.P.gl_repr KX G ?z; (case z => k_is))
      (case g_sorted => refine' DL.P.gl_sorted KX G ?z; (case z => k_is))
      (case g_bool => refine' DL.P.gl_bool KX G ?z; (case z => k_is))
      (case g_dict => refine' DL.P.gl_dict KX G ?z; (case z => k_is))
      (case g_int => refine' DL.P.gl_int KX G ?z; (case z => k_is))
      (case g_list => refine' DL.P.gl_list KX G ?z; (case z => k_is))
      (case g_range => refine' DL.P.gl_range KX G ?z; (case z => k_is))
      (case g_str => refine' DL.P.gl_str KX G ?z; (case z => k_is))
      (case g_tuple => refine' DL.P.gl_tuple KX G ?z; (case z => k_is))
end
