import PyProof.Rows.All
import Wide.All
import OpenK.AllK
import Wide.FinOn
import HandS.ForMost
import HandS.Defaults
import HandS.HeadHook1
import HandS.HeadHook2
import HandS.Lambda
import HandS.TupAny
import HandS.Wide
import HandS.Deep
import PyProof.Rows.InDataRows
import HandS.TupLe
import HandS.IsInst
import HandS.Conv
import HandS.ForExc
import HandS.CallSlots
import HandS.Walk
import KE.GoesNew
import HandS.Style
import HandS.DictComp
import KE.SortData
import HandS.TupSets
import KE.KDictZip
import HandS.ListItems
import PyProof.Rows.NestShow
import HandS.HeadEnd
import KE.KExcSuper
import KE.KSuper
import HandS.ExcInit
import HandS.ExcField
import PyProof.Rows.FactsExc_KeyError
import KE.DataCmp
import KE.DatumOrd
import HandS.ExcIs
import HandS.TryMany
import HandS.HeadHook4
import HandS.EndTab
import HandS.NestedK
import KE.KExcIs
import HandS.Iter
import HandS.Small
import HandS.TupMul
import PyProof.StrBlock2
import HandS.Rev
import KE.DataMinMax
import PyProof.InstNe
import OpenK.KOwn
import KE.KTupSum
import KE.KStateDown
import HandS.Head0
import HandS.Head1
import HandS.Head2
import PySem.Challenge.RW_makefirst_k08_whole_batches_sorted_by_la
set_option Elab.async false
set_option linter.all false
set_option maxRecDepth 100000
set_option maxHeartbeats 4000000
set_option maxHeartbeats 4000000
/-! DL0: data without a heap, how a heap bears it, what holds of a frame, the state's growth. -/
namespace DL
open PySem PySem.Spec PyProof.Rows L2

abbrev St := L2.St
/-- room for k calls, no repr under way -/
structure Room (k : Nat) (A : Around) : Prop where
  base : L2.Room k A
  g : A.guards = some []
namespace Room
variable {k : Nat} {A : Around}
theorem mono {j k : Nat} {A : Around} (r : Room k A) (h : j ≤ k) : Room j A := ⟨r.base.mono h, r.g⟩
theorem deeper (r : Room (k + 1) A) (env : PySem.Env) : Room k (A.deeper env) := ⟨r.base.deeper env, r.g⟩
theorem units (r : Room k A) : A.units + 64 < cLine := r.base.units
theorem un (r : Room k A) : A.units + 16 * k + 200 < cLine := r.base.un
theorem hd (r : Room k A) : A.handled = none := r.base.hd
theorem depth (r : Room k A) : A.depth < recursionLimit := r.base.depth
theorem make (r : Room (k + 1) A) (C : Addr) (us : List Value) (kw : List (Str × Value)) : Room k (A.under (.builtin "type.__call__" ⟨.ref C :: us, kw⟩)) := ⟨r.base.make C us kw, r.g⟩
end Room
/-- data: what never changes any more -/
inductive D where
  | non
  | bl (b : Bool)
  | int (i : Int)
  | str (x : Str)
  | tup (xs : List D)
  | lst (xs : List D)
  | rol (xs : List D)
  | ins (c : Str) (ns : List Str) (xs : List D)
  | ty (n : String)
  | cls (c : Str)
  /-- an error that was caught: at a, its dict at d -/
  | exn (a d : Addr) (ns : List Str) (xs : List D)
/-- an object that may change: it is known to one name alone -/
inductive O where
  | lst (xs : List D)
  | dct (b : Bool) (kvs : List (D × D))
  | ins (c : Str) (ns : List Str) (xs : List D)
/-- a slot: nothing known, data, an own object, an own object that is only read for now -/
inductive SV where
  | no
  | sh (d : D)
  | ow (o : O)
  | lk (o : O)
abbrev Env := List SV
/-- a value: data, a new object that nobody else has, the object of a slot -/
inductive Val where
  | d (x : D)
  | new (o : O)
  | at_ (i : Nat)
structure Exn where
  cls : Str
  ns : List Str
  xs : List D
inductive Out (α : Type) where
  | ok (a : α) (e : Env)
  | er (x : Exn) (e : Env)
  | bad
abbrev M (α : Type) := Env → Out α
def M.bind {α β : Type} (f : M α) (g : α → M β) : M β := fun e => match f e with
  | .ok a e => g a e
  | .er x e => .er x e
  | .bad => .bad
def M.ret {α : Type} (a : α) : M α := fun e => .ok a e

mutual
def Rep (K : PySem.W.Frag) (H : Hp) : D → V → Prop
  | .non, v => v = .non
  | .bl b, v => v = .bl b
  | .int i, v => v = .int i
  | .str x, v => v = .str x
  | .ty n, v => v = .ty n
  | .cls c, v => v = .ref (He.ga K c)
  | .tup xs, v => ∃ a vs, v = .ref a ∧ H a = some (.tup vs) ∧ RepL K H xs vs
  | .lst xs, v => ∃ a vs, v = .ref a ∧ H a = some (.lst vs) ∧ RepL K H xs vs
  | .rol xs, v => ∃ a vs, v = .ref a ∧ SqL K H a vs ∧ RepL K H xs vs
  | .ins c ns xs, v => ∃ a dx vs, v = .ref a ∧ H a = some (.ins (He.ga K c) dx (ns.zip vs)) ∧ ns.length = vs.length ∧ RepL K H xs vs
  | .exn a dx ns xs, v => ∃ vs, v = .ref a ∧ H dx = some (.xd (ns.zip vs)) ∧ ns.length = vs.length ∧ RepL K H xs vs
def RepL (K : PySem.W.Frag) (H : Hp) : List D → List V → Prop
  | [], vs => vs = []
  | d :: ds, vs => ∃ v r, vs = v :: r ∧ Rep K H d v ∧ RepL K H ds r
end

section
variable {K : PySem.W.Frag} {H H' : Hp}
theorem rd_same {a : Addr} {u : HO} (e : Same H H') (h : Rd H a u) : Rd H' a u := by
  rcases h with h | ⟨o, h⟩
  · exact .inl (e _ _ h)
  · exact .inr ⟨o, e _ _ h⟩
theorem sqL_same {a : Addr} {xs : List V} (e : Same H H') (h : SqL K H a xs) : SqL K H' a xs := h.imp (rd_same e) id
theorem sqT_same {a : Addr} {xs : List V} (e : Same H H') (h : SqT K H a xs) : SqT K H' a xs := h.imp (rd_same e) id
mutual
theorem Rep.same (e : Same H H') : ∀ {d : D} {v : V}, Rep K H d v → Rep K H' d v
  | .non, _, h => by unfold Rep at h ⊢; exact h
  | .bl _, _, h => by unfold Rep at h ⊢; exact h
  | .int _, _, h => by unfold Rep at h ⊢; exact h
  | .str _, _, h => by unfold Rep at h ⊢; exact h
  | .ty _, _, h => by unfold Rep at h ⊢; exact h
  | .cls _, _, h => by unfold Rep at h ⊢; exact h
  | .tup xs, _, h => by
    unfold Rep at h ⊢
    obtain ⟨a, vs, h1, h2, h3⟩ := h
    exact ⟨a, vs, h1, e _ _ h2, RepL.same e h3⟩
  | .lst xs, _, h => by
    unfold Rep at h ⊢
    obtain ⟨a, vs, h1, h2, h3⟩ := h
    exact ⟨a, vs, h1, e _ _ h2, RepL.same e h3⟩
  | .rol xs, _, h => by
    unfold Rep at h ⊢
    obtain ⟨a, vs, h1, h2, h3⟩ := h
    exact ⟨a, vs, h1, sqL_same e h2, RepL.same e h3⟩
  | .ins c ns xs, _, h => by
    unfold Rep at h ⊢
    obtain ⟨a, dx, vs, h1, h2, h3, h4⟩ := h
    exact ⟨a, dx, vs, h1, e _ _ h2, h3, RepL.same e h4⟩
  | .exn a dx ns xs, _, h => by
    unfold Rep at h ⊢
    obtain ⟨vs, h1, h2, h3, h4⟩ := h
    exact ⟨vs, h1, e _ _ h2, h3, RepL.same e h4⟩
theorem RepL.same (e : Same H H') : ∀ {ds : List D} {vs : List V}, RepL K H ds vs → RepL K H' ds vs
  | [], _, h => by unfold RepL at h ⊢; exact h
  | d :: ds, _, h => by
    unfold RepL at h ⊢
    obtain ⟨v, r, h1, h2, h3⟩ := h
    exact ⟨v, r, h1, Rep.same e h2, RepL.same e h3⟩
end
theorem repL_nil {vs : List V} : RepL K H [] vs ↔ vs = [] := by unfold RepL; exact Iff.rfl
theorem repL_cons {d : D} {ds : List D} {vs : List V} : RepL K H (d :: ds) vs ↔ ∃ v r, vs = v :: r ∧ Rep K H d v ∧ RepL K H ds r := by
  constructor
  · intro h; unfold RepL at h; exact h
  · intro h; unfold RepL; exact h
theorem RepL.nil : RepL K H [] [] := repL_nil.mpr rfl
theorem RepL.cons {d : D} {ds : List D} {v : V} {vs : List V} (h : Rep K H d v) (t : RepL K H ds vs) : RepL K H (d :: ds) (v :: vs) := repL_cons.mpr ⟨v, vs, rfl, h, t⟩
theorem RepL.length : ∀ {ds : List D} {vs : List V}, RepL K H ds vs → ds.length = vs.length
  | [], vs, h => by rw [repL_nil] at h; subst h; rfl
  | d :: ds, vs, h => by
    rw [repL_cons] at h
    obtain ⟨v, r, rfl, _, t⟩ := h
    simp [RepL.length t]
theorem RepL.append : ∀ {ds es : List D} {vs us : List V}, RepL K H ds vs → RepL K H es us → RepL K H (ds ++ es) (vs ++ us)
  | [], es, vs, us, h, k => by rw [repL_nil] at h; subst h; exact k
  | d :: ds, es, vs, us, h, k => by
    rw [repL_cons] at h
    obtain ⟨v, r, rfl, hv, t⟩ := h
    exact .cons hv (RepL.append t k)
theorem RepL.get : ∀ {ds : List D} {vs : List V} {i : Nat} {d : D}, RepL K H ds vs → ds[i]? = some d → ∃ v, vs[i]? = some v ∧ Rep K H d v
  | [], _, _, _, _, e => by simp at e
  | x :: ds, vs, 0, d, h, e => by
    rw [repL_cons] at h
    obtain ⟨v, r, rfl, hv, t⟩ := h
    simp at e; subst e
    exact ⟨v, rfl, hv⟩
  | x :: ds, vs, i + 1, d, h, e => by
    rw [repL_cons] at h
    obtain ⟨v, r, rfl, hv, t⟩ := h
    obtain ⟨u, h1, h2⟩ := RepL.get (i := i) t (by simpa using e)
    exact ⟨u, by simpa using h1, h2⟩
theorem RepL.take : ∀ {ds : List D} {vs : List V} (n : Nat), RepL K H ds vs → RepL K H (ds.take n) (vs.take n)
  | _, _, 0, _ => by simp; exact .nil
  | [], vs, n + 1, h => by rw [repL_nil] at h; subst h; exact .nil
  | d :: ds, vs, n + 1, h => by
    rw [repL_cons] at h
    obtain ⟨v, r, rfl, hv, t⟩ := h
    exact .cons hv (RepL.take n t)
theorem RepL.drop : ∀ {ds : List D} {vs : List V} (n : Nat), RepL K H ds vs → RepL K H (ds.drop n) (vs.drop n)
  | _, _, 0, h => h
  | [], vs, n + 1, h => by rw [repL_nil] at h; subst h; exact .nil
  | d :: ds, vs, n + 1, h => by
    rw [repL_cons] at h
    obtain ⟨v, r, rfl, hv, t⟩ := h
    exact RepL.drop n t
theorem RepL.set {d : D} {v : V} (r : Rep K H d v) : ∀ {ds : List D} {vs : List V} (i : Nat), RepL K H ds vs → RepL K H (ds.set i d) (vs.set i v)
  | [], vs, i, h => by rw [repL_nil] at h; subst h; exact .nil
  | x :: ds, vs, 0, h => by
    rw [repL_cons] at h
    obtain ⟨u, w, rfl, hv, t⟩ := h
    exact .cons r t
  | x :: ds, vs, i + 1, h => by
    rw [repL_cons] at h
    obtain ⟨u, w, rfl, hv, t⟩ := h
    exact .cons hv (RepL.set r i t)
theorem RepL.of_get : ∀ {ds : List D} {vs : List V}, ds.length = vs.length → (∀ (i : Nat) d v, ds[i]? = some d → vs[i]? = some v → Rep K H d v) → RepL K H ds vs
  | [], [], _, _ => .nil
  | d :: ds, v :: vs, hl, h => .cons (h 0 d v rfl rfl) (RepL.of_get (by simpa using hl) fun i a b h1 h2 => h (i + 1) a b (by simpa using h1) (by simpa using h2))
theorem rep_int {i : Int} {v : V} : Rep K H (.int i) v ↔ v = .int i := by unfold Rep; exact Iff.rfl
theorem rep_bl {i : Bool} {v : V} : Rep K H (.bl i) v ↔ v = .bl i := by unfold Rep; exact Iff.rfl
theorem rep_non {v : V} : Rep K H .non v ↔ v = .non := by unfold Rep; exact Iff.rfl
theorem rep_str {i : Str} {v : V} : Rep K H (.str i) v ↔ v = .str i := by unfold Rep; exact Iff.rfl
theorem rep_ty {i : String} {v : V} : Rep K H (.ty i) v ↔ v = .ty i := by unfold Rep; exact Iff.rfl
theorem rep_cls {i : Str} {v : V} : Rep K H (.cls i) v ↔ v = .ref (He.ga K i) := by unfold Rep; exact Iff.rfl
theorem rep_tupS {xs : List D} {v : V} : Rep K H (.tup xs) v ↔ ∃ a vs, v = .ref a ∧ H a = some (.tup vs) ∧ RepL K H xs vs := by
  constructor
  · intro h; unfold Rep at h; exact h
  · intro h; unfold Rep; exact h
theorem rep_tupQ {xs : List D} {v : V} (h : Rep K H (.tup xs) v) : ∃ a vs, v = .ref a ∧ SqT K H a vs ∧ RepL K H xs vs :=
  let ⟨a, vs, h1, h2, h3⟩ := rep_tupS.mp h; ⟨a, vs, h1, .of h2, h3⟩
theorem rep_lst {xs : List D} {v : V} : Rep K H (.lst xs) v ↔ ∃ a vs, v = .ref a ∧ H a = some (.lst vs) ∧ RepL K H xs vs := by
  constructor
  · intro h; unfold Rep at h; exact h
  · intro h; unfold Rep; exact h
theorem rep_rol {xs : List D} {v : V} : Rep K H (.rol xs) v ↔ ∃ a vs, v = .ref a ∧ SqL K H a vs ∧ RepL K H xs vs := by
  constructor
  · intro h; unfold Rep at h; exact h
  · intro h; unfold Rep; exact h
theorem rep_exn {a dx : Addr} {ns : List Str} {xs : List D} {v : V} : Rep K H (.exn a dx ns xs) v ↔ ∃ vs, v = .ref a ∧ H dx = some (.xd (ns.zip vs)) ∧ ns.length = vs.length ∧ RepL K H xs vs := by
  constructor
  · intro h; unfold Rep at h; exact h
  · intro h; unfold Rep; exact h
theorem rep_ins {c : Str} {ns : List Str} {xs : List D} {v : V} : Rep K H (.ins c ns xs) v ↔ ∃ a dx vs, v = .ref a ∧ H a = some (.ins (He.ga K c) dx (ns.zip vs)) ∧ ns.length = vs.length ∧ RepL K H xs vs := by
  constructor
  · intro h; unfold Rep at h; exact h
  · intro h; unfold Rep; exact h
end

/-! ### own objects -/
/-- a key of a dict: a number or a text; a tuple of such -/
def keyD : D → Option Key
  | .int i => some (.inl i)
  | .str x => some (.inr x)
  | _ => none
def keysD : List D → Option (List Key)
  | [] => some []
  | d :: ds => match keyD d, keysD ds with
    | some k, some ks => some (k :: ks)
    | _, _ => none
def tkeyD : D → Option (List Key)
  | .tup ds => keysD ds
  | _ => none
/-- pairs as the heap bears them -/
def KVRep {κ : Type} (K : PySem.W.Frag) (S : Hp) (f : D → Option κ) (kvs : List (D × D)) (hs : List (κ × V)) : Prop := Paired (fun (p : D × D) (q : κ × V) => f p.1 = some q.1 ∧ Rep K S p.2 q.2) kvs hs
def ORep (K : PySem.W.Frag) (H S : Hp) (a : Addr) : O → Prop
  | .lst xs => ∃ vs, H a = some (.lst vs) ∧ RepL K S xs vs
  | .dct true kvs => ∃ hs, H a = some (.dT hs) ∧ KVRep K S tkeyD kvs hs
  | .dct false kvs => ∃ hs, H a = some (.dK hs) ∧ KVRep K S keyD kvs hs
  | .ins c ns xs => ∃ dx vs, H a = some (.ins (He.ga K c) dx (ns.zip vs)) ∧ ns.length = vs.length ∧ RepL K S xs vs
theorem paired_map {α β : Type} {F G : α → β → Prop} : ∀ {l : List α} {m : List β}, Paired F l m → (∀ a b, F a b → G a b) → Paired G l m
  | _, _, .nil, _ => .nil
  | _, _, .cons r t, f => .cons (f _ _ r) (paired_map t f)
theorem ORep.mono {K : PySem.W.Frag} {H H' S S' : Hp} {a : Addr} (e : Same S S') (h : H' a = H a) : ∀ {o : O}, ORep K H S a o → ORep K H' S' a o
  | .lst xs, ⟨vs, h1, h2⟩ => ⟨vs, h.trans h1, h2.same e⟩
  | .dct true kvs, ⟨hs, h1, h2⟩ => ⟨hs, h.trans h1, paired_map h2 fun _ _ z => ⟨z.1, z.2.same e⟩⟩
  | .dct false kvs, ⟨hs, h1, h2⟩ => ⟨hs, h.trans h1, paired_map h2 fun _ _ z => ⟨z.1, z.2.same e⟩⟩
  | .ins c ns xs, ⟨dx, vs, h1, h2, h3⟩ => ⟨dx, vs, h.trans h1, h2, h3.same e⟩
theorem ORep.there {K : PySem.W.Frag} {H S : Hp} {a : Addr} : ∀ {o : O}, ORep K H S a o → ∃ u, H a = some u
  | .lst xs, ⟨vs, h1, _⟩ => ⟨_, h1⟩
  | .dct true kvs, ⟨hs, h1, _⟩ => ⟨_, h1⟩
  | .dct false kvs, ⟨hs, h1, _⟩ => ⟨_, h1⟩
  | .ins c ns xs, ⟨dx, vs, h1, _⟩ => ⟨_, h1⟩

/-! ### the frame -/
def SAt (K : PySem.W.Frag) (x : Option (Option V)) (H S : Hp) : SV → Prop
  | .no => True
  | .sh d => ∃ v, x = some (some v) ∧ Rep K S d v
  | .ow o => ∃ a, x = some (some (.ref a)) ∧ S a = none ∧ ORep K H S a o
  | .lk o => ∃ a, x = some (some (.ref a)) ∧ S a = none ∧ ORep K H S a o
def isOw : SV → Bool
  | .ow _ => true
  | _ => false
def isLk : SV → Bool
  | .lk _ => true
  | _ => false
def isHad : SV → Bool
  | .ow _ => true
  | .lk _ => true
  | _ => false
def Own (k : Nat) (σ : St) (e : Env) (b : Addr) : Prop := ∃ (i : Nat) (s : SV), k ≤ i ∧ e[i]? = some s ∧ isOw s = true ∧ σ[i]? = some (some (V.ref b))
def Had (σ : St) (e : Env) (b : Addr) : Prop := ∃ (i : Nat) (s : SV), e[i]? = some s ∧ isHad s = true ∧ σ[i]? = some (some (V.ref b))
theorem Own.had {k : Nat} {σ : St} {e : Env} {b : Addr} (h : Own k σ e b) : Had σ e b := by
  obtain ⟨i, s, _, h1, h2, h3⟩ := h
  refine ⟨i, s, h1, ?_, h3⟩
  cases s <;> first | rfl | cases h2
def mutHO : HO → Bool
  | .tup _ => false
  | .tbl _ => false
  | _ => true
/-- a code object's table: it grows -/
def isTab : HO → Bool
  | .tbl _ => true
  | _ => false
theorem mut_tab {o : HO} (h : mutHO o = true) : isTab o = false := by cases o <;> first | rfl | cases h
/-- which tables there are, and whose name the code objects in each bear -/
class TabsT where
  T : List (Addr × Str)
abbrev TabsH [TabsT] (H : Hp) : Prop := LamX.Tabs TabsT.T H
/-- what is new, or was no table and no code object, may be written -/
theorem tabs_new [TabsT] {H : Hp} {p : Addr} {o : HO} (hp : H p = none) (t : TabsH H) : TabsH (upd H p o) := LamX.Tabs.ext t fun b u h => by rw [upd_ne (ne_of_none h hp)]; exact h
def isExt : HO → Bool
  | .ext _ => true
  | _ => false
theorem tabs_wr [TabsT] {H : Hp} {p : Addr} {o u : HO} (hp : H p = some u) (h1 : isTab u = false) (h2 : isExt u = false) (t : TabsH H) : TabsH (upd H p o) := fun q hq => by
  obtain ⟨ps, k1, k2, k3⟩ := t q hq
  have n1 : q.1 ≠ p := fun z => by rw [z, hp] at k1; cases k1; cases h1
  refine ⟨ps, by rw [upd_ne n1]; exact k1, k2, fun pos cv hc => ?_⟩
  obtain ⟨c, e1, e2⟩ := k3 pos cv hc
  have n2 : c ≠ p := fun z => by rw [z, hp] at e2; cases e2; cases h2
  exact ⟨c, e1, by rw [upd_ne n2]; exact e2⟩
variable [TabsT]
/-- no other tables -/
def OnlyT (H : Hp) : Prop := ∀ b ps, H b = some (.tbl ps) → ∃ q, (b, q) ∈ TabsT.T
theorem ot_upd {H : Hp} {p : Addr} {o : HO} (h : OnlyT H) (ho : isTab o = false) : OnlyT (upd H p o) := fun b ps hb => by
  by_cases q : b = p
  · rw [q, upd_same] at hb; cases hb; cases ho
  · rw [upd_ne q] at hb; exact h b ps hb
theorem nt_upd {S : Hp} {p : Addr} {o : HO} (h : ∀ b u, S b = some u → isTab u = false) (ho : isTab o = false) : ∀ b u, upd S p o b = some u → isTab u = false := fun b u hb => by
  by_cases q : b = p
  · rw [q, upd_same] at hb; cases hb; exact ho
  · rw [upd_ne q] at hb; exact h b u hb
structure Abs (K : PySem.W.Frag) (σ : St) (H S : Hp) (e : Env) : Prop where
  len : e.length = σ.length
  sub : Same S H
  at_ : ∀ (i : Nat) (s : SV), e[i]? = some s → SAt K σ[i]? H S s
  ap : ∀ (i j : Nat) (s t : SV) (a : Addr), e[i]? = some s → e[j]? = some t → isHad s = true → isHad t = true → σ[i]? = some (some (V.ref a)) → σ[j]? = some (some (V.ref a)) → i = j
  tab : TabsH H
  nt : ∀ b u, S b = some u → isTab u = false
  ot : OnlyT H
structure Ext (σ : St) (e : Env) (H S : Hp) (σ' : St) (e' : Env) (H' S' : Hp) : Prop where
  sm : Same S S'
  fr : ∀ b o, H b = some o → ¬ Own 0 σ e b → isTab o = false → H' b = some o ∧ (mutHO o = true → S b = none → S' b = none)
  tr : ∀ b, H' b = none → H b = none
  ow : ∀ k b, Own k σ' e' b → Own k σ e b ∨ H b = none
  hd : ∀ b, Had σ' e' b → Had σ e b ∨ H b = none
  lk : ∀ (i : Nat) (s : SV), e'[i]? = some s → isLk s = true → (∃ t, e[i]? = some t ∧ isLk t = true) ∧ σ'[i]? = σ[i]?
  tb : TabsH H → TabsH H'
theorem ORep.thereM {K : PySem.W.Frag} {H S : Hp} {a : Addr} : ∀ {o : O}, ORep K H S a o → ∃ u, H a = some u ∧ mutHO u = true
  | .lst xs, ⟨vs, h1, _⟩ => ⟨_, h1, rfl⟩
  | .dct true kvs, ⟨hs, h1, _⟩ => ⟨_, h1, rfl⟩
  | .dct false kvs, ⟨hs, h1, _⟩ => ⟨_, h1, rfl⟩
  | .ins c ns xs, ⟨dx, vs, h1, _⟩ => ⟨_, h1, rfl⟩
theorem ORep.thereX {K : PySem.W.Frag} {H S : Hp} {a : Addr} : ∀ {o : O}, ORep K H S a o → ∃ u, H a = some u ∧ mutHO u = true ∧ isExt u = false
  | .lst xs, ⟨vs, h1, _⟩ => ⟨_, h1, rfl, rfl⟩
  | .dct true kvs, ⟨hs, h1, _⟩ => ⟨_, h1, rfl, rfl⟩
  | .dct false kvs, ⟨hs, h1, _⟩ => ⟨_, h1, rfl, rfl⟩
  | .ins c ns xs, ⟨dx, vs, h1, _⟩ => ⟨_, h1, rfl, rfl⟩
theorem own_tab {K : PySem.W.Frag} {H S : Hp} {a : Addr} {o : O} {u : HO} (h : ORep K H S a o) (hu : H a = some u) : isTab u = false := by
  obtain ⟨u', h1, h2⟩ := h.thereM
  rw [hu] at h1
  cases h1
  exact mut_tab h2
theorem Ext.refl {σ : St} {e : Env} {H S : Hp} : Ext σ e H S σ e H S := ⟨Same.refl _, fun _ _ h _ _ => ⟨h, fun _ => id⟩, fun _ h => h, fun _ _ h => .inl h, fun _ h => .inl h, fun i s h k => ⟨⟨s, h, k⟩, rfl⟩, id⟩
theorem Ext.trans {σ σ1 σ2 : St} {e e1 e2 : Env} {H S H1 S1 H2 S2 : Hp} (a : Ext σ e H S σ1 e1 H1 S1) (b : Ext σ1 e1 H1 S1 σ2 e2 H2 S2) : Ext σ e H S σ2 e2 H2 S2 where
  sm := a.sm.trans b.sm
  tb := fun t => b.tb (a.tb t)
  fr := fun c o h n nt => by
    obtain ⟨h1, s1⟩ := a.fr c o h n nt
    obtain ⟨h2, s2⟩ := b.fr c o h1 (fun q => (a.ow 0 c q).elim n fun z => by rw [h] at z; cases z) nt
    exact ⟨h2, fun m z => s2 m (s1 m z)⟩
  tr := fun c h => a.tr c (b.tr c h)
  ow := fun k c h => (b.ow k c h).elim (fun q => a.ow k c q) fun q => .inr (a.tr c q)
  hd := fun c h => (b.hd c h).elim (fun q => a.hd c q) fun q => .inr (a.tr c q)
  lk := fun i s h k => by
    obtain ⟨⟨t, h1, h2⟩, h3⟩ := b.lk i s h k
    obtain ⟨r, h4⟩ := a.lk i t h1 h2
    exact ⟨r, h3.trans h4⟩
def VAt (K : PySem.W.Frag) (σ : St) (H0 H S : Hp) (e : Env) : Val → V → Prop
  | .d x, w => Rep K S x w
  | .new o, w => ∃ a, w = .ref a ∧ S a = none ∧ ORep K H S a o ∧ ¬ Had σ e a ∧ H0 a = none
  | .at_ i, w => ∃ s, e[i]? = some s ∧ isHad s = true ∧ σ[i]? = some (some w)
theorem Abs.had_there {K : PySem.W.Frag} {σ : St} {H S : Hp} {e : Env} (A : Abs K σ H S e) {b : Addr} (h : Had σ e b) : S b = none ∧ ∃ u, H b = some u := by
  obtain ⟨i, s, h1, h2, h3⟩ := h
  have q := A.at_ i s h1
  cases s with
  | no => cases h2
  | sh d => cases h2
  | ow o =>
    obtain ⟨a, e1, e2, e3⟩ := q
    rw [h3] at e1
    cases e1
    exact ⟨e2, e3.there⟩
  | lk o =>
    obtain ⟨a, e1, e2, e3⟩ := q
    rw [h3] at e1
    cases e1
    exact ⟨e2, e3.there⟩
theorem Abs.had_thereM {K : PySem.W.Frag} {σ : St} {H S : Hp} {e : Env} (A : Abs K σ H S e) {b : Addr} (h : Had σ e b) : S b = none ∧ ∃ u, H b = some u ∧ mutHO u = true := by
  obtain ⟨i, s, h1, h2, h3⟩ := h
  have q := A.at_ i s h1
  cases s with
  | no => cases h2
  | sh d => cases h2
  | ow o =>
    obtain ⟨a, e1, e2, e3⟩ := q
    rw [h3] at e1
    cases e1
    exact ⟨e2, e3.thereM⟩
  | lk o =>
    obtain ⟨a, e1, e2, e3⟩ := q
    rw [h3] at e1
    cases e1
    exact ⟨e2, e3.thereM⟩
/-- a value stays, whatever comes behind it in an expression; of a slot's object: while it is one -/
theorem VAt.mono {K : PySem.W.Frag} {σ : St} {H0 H S H' S' : Hp} {e e' : Env} {v : Val} {w : V} (h : VAt K σ H0 H S e v w) (x : Ext σ e H S σ e' H' S') (hs : ∀ i, v = .at_ i → ∃ s, e'[i]? = some s ∧ isHad s = true) : VAt K σ H0 H' S' e' v w := by
  cases v with
  | d y => exact Rep.same x.sm h
  | new o =>
    obtain ⟨a, h1, h2, h3, h4, h5⟩ := h
    obtain ⟨u, hu, hm⟩ := h3.thereM
    obtain ⟨k1, k2⟩ := x.fr a u hu (fun q => h4 q.had) (mut_tab hm)
    exact ⟨a, h1, k2 hm h2, h3.mono x.sm (k1.trans hu.symm), fun q => (x.hd a q).elim h4 (fun z => by rw [hu] at z; cases z), h5⟩
  | at_ i =>
    obtain ⟨s, h1, h2, h3⟩ := h
    obtain ⟨t, k1, k2⟩ := hs i rfl
    exact ⟨t, k1, k2, h3⟩
theorem VAt.base {K : PySem.W.Frag} {σ : St} {H0 H1 H S : Hp} {e : Env} {v : Val} {w : V} (h : VAt K σ H1 H S e v w) (tr : ∀ b, H1 b = none → H0 b = none) : VAt K σ H0 H S e v w := by
  cases v with
  | d y => exact h
  | new o =>
    obtain ⟨a, h1, h2, h3, h4, h5⟩ := h
    exact ⟨a, h1, h2, h3, h4, tr a h5⟩
  | at_ i => exact h
/-- an exception as the heap bears it -/
def XAt (K : PySem.W.Frag) (H S : Hp) (x : Exn) (cls : Value) (d : Option Addr) : Prop :=
  cls = .ref (He.ga K x.cls) ∧ ∃ dd vs, d = some dd ∧ S dd = some (.xd (x.ns.zip vs)) ∧ x.ns.length = vs.length ∧ RepL K S x.xs vs

/-! ### what an expression is to bring -/
def Goal {α β : Type} (K : PySem.W.Frag) (W : WX) (σ : St) (H0 S0 : Hp) (e0 : Env) (At : α → Hp → Hp → Env → β → Prop) (r : Out α) (Q : β → Hp → Prop) : Prop :=
  match r with
  | .ok a e => ∀ H S w, Abs K σ H S e → Ext σ e0 H0 S0 σ e H S → At a H S e w → Q w H
  | .er x e => ∀ H S cls d, Abs K σ H S e → Ext σ e0 H0 S0 σ e H S → XAt K H S x cls d → W cls d σ H
  | .bad => False
/-- the reading of an expression's meaning f -/
def tDx {α β : Type} (K : PySem.W.Frag) (W : WX) (At : St → Hp → α → Hp → Hp → Env → β → Prop) (f : M α) (σ : St) (H : Hp) (Q : β → Hp → Prop) : Prop :=
  ∃ S e, Abs K σ H S e ∧ Goal K W σ H S e (At σ H) (f e) Q
abbrev vAt (K : PySem.W.Frag) (σ : St) (H0 : Hp) (v : Val) (H S : Hp) (e : Env) (w : V) : Prop := VAt K σ H0 H S e v w
abbrev bAt (σ : St) (H0 : Hp) (b : Bool) (H S : Hp) (e : Env) (c : Bool) : Prop := c = b
abbrev tD (K : PySem.W.Frag) (W : WX) (f : M Val) : TE := tDx K W (vAt K) f
abbrev tDB (K : PySem.W.Frag) (W : WX) (f : M Bool) : TT := tDx K W bAt f
/-- the workhorse: the first part of a meaning runs, the rest's goal is handed on -/
theorem tDx.step {α β γ δ : Type} {K : PySem.W.Frag} {W : WX} {σ : St} {H0 S0 H S : Hp} {e0 e : Env} {At : St → Hp → α → Hp → Hp → Env → β → Prop} {At2 : γ → Hp → Hp → Env → δ → Prop} {f : M α} {k : α → M γ} {Q : δ → Hp → Prop} {R : β → Hp → Prop}
    (A : Abs K σ H S e) (E : Ext σ e0 H0 S0 σ e H S) (g : Goal K W σ H0 S0 e0 At2 (M.bind f k e) Q)
    (st : ∀ a e' H' S' w, Abs K σ H' S' e' → Ext σ e0 H0 S0 σ e' H' S' → Ext σ e H S σ e' H' S' → At σ H a H' S' e' w → Goal K W σ H0 S0 e0 At2 (k a e') Q → R w H') : tDx K W At f σ H R := by
  refine ⟨S, e, A, ?_⟩
  unfold M.bind at g
  cases q : f e with
  | ok a e' =>
    rw [q] at g
    intro H' S' w A' E' v
    exact st a e' H' S' w A' (E.trans E') E' v g
  | er x e' =>
    rw [q] at g
    intro H' S' cls d A' E' h
    exact g H' S' cls d A' (E.trans E') h
  | bad =>
    rw [q] at g
    exact g
theorem tDx.imp {α β : Type} {K : PySem.W.Frag} {W : WX} {σ : St} {H : Hp} {At : St → Hp → α → Hp → Hp → Env → β → Prop} {f : M α} {Q Q' : β → Hp → Prop} (h : tDx K W At f σ H Q) (k : ∀ w H', Q w H' → Q' w H') : tDx K W At f σ H Q' := by
  obtain ⟨S, e, A, g⟩ := h
  refine ⟨S, e, A, ?_⟩
  cases q : f e with
  | ok a e' => rw [q] at g; exact fun H' S' w A' E' v => k _ _ (g H' S' w A' E' v)
  | er x e' => rw [q] at g; exact g
  | bad => rw [q] at g; exact g
end DL

set_option maxHeartbeats 4000000
/-! DL1: the judgements over meanings; names, constants, operators, tests. -/
namespace DL
open PySem PySem.Spec PyProof.Rows L2
variable [TabsT]

structure DE (X : Cx) (W : WX) (e : Expr) (f : M Val) : Prop where
  pe : PE X e (tD X.K W f)
structure DT (X : Cx) (W : WX) (e : Expr) (f : M Bool) : Prop where
  pt : PT X e (tDB X.K W f)
def VsAt (K : PySem.W.Frag) (σ : St) (H0 H S : Hp) (e : Env) (vs : List Val) (ws : List V) : Prop := Paired (VAt K σ H0 H S e) vs ws
abbrev vsAt (K : PySem.W.Frag) (σ : St) (H0 : Hp) (vs : List Val) (H S : Hp) (e : Env) (ws : List V) : Prop := VsAt K σ H0 H S e vs ws
abbrev tDA (K : PySem.W.Frag) (W : WX) (f : M (List Val)) : TA := tDx K W (vsAt K) f
structure DA (X : Cx) (W : WX) (es : List Expr) (f : M (List Val)) : Prop where
  pa : PA X es (tDA X.K W f)
theorem PE.weak {X : Cx} {e : Expr} {t t' : TE} (h : PE X e t) (k : ∀ σ H Q, t' σ H Q → t σ H Q) : PE X e t' := ⟨fun pins s σ H Q I q => h.run pins s σ H Q I (k σ H Q q)⟩
theorem PT.weak {X : Cx} {e : Expr} {t t' : TT} (h : PT X e t) (k : ∀ σ H Q, t' σ H Q → t σ H Q) : PT X e t' := ⟨fun pins s σ H Q I q => h.run pins s σ H Q I (k σ H Q q)⟩
theorem PW.weak {X : Cx} {e : Expr} {t t' : TT} (h : PW X e t) (k : ∀ σ H Q, t' σ H Q → t σ H Q) : PW X e t' := ⟨fun wh pins s σ H Q I q => h.run wh pins s σ H Q I (k σ H Q q)⟩
theorem PA.weak {X : Cx} {e : List Expr} {t t' : TA} (h : PA X e t) (k : ∀ σ H Q, t' σ H Q → t σ H Q) : PA X e t' := ⟨fun pos pins s σ H Q I q => h.run pos pins s σ H Q I (k σ H Q q)⟩
theorem PS.weak {X : Cx} {e : Stmt} {t t' : TS} (h : PS X e t) (k : ∀ D σ H, t' D σ H → t D σ H) : PS X e t' := ⟨fun pins s σ H Q I q => h.run pins s σ H Q I (k Q σ H q)⟩

/-! ### a value looked at again behind further parts -/
def fixV (v : Val) : M Val := fun e => match v with
  | .at_ i => (match e[i]? with
    | some (.ow _) => .ok (.at_ i) e
    | some (.lk _) => .ok (.at_ i) e
    | some (.sh d) => .ok (.d d) e
    | _ => .bad)
  | .d x => .ok (.d x) e
  | .new o => .ok (.new o) e
section
variable {K : PySem.W.Frag} {W : WX} {σ : St} {H0 S0 H S H' S' : Hp} {e0 e e' : Env}
/-- fixV's end: the value as it is now -/
theorem fix_step {α β : Type} {v : Val} {w : V} {At : α → Hp → Hp → Env → β → Prop} {k : Val → M α} {Q : β → Hp → Prop} {P : Prop} (h : VAt K σ H0 H S e v w) (x : Ext σ e H S σ e' H' S') (A : Abs K σ H' S' e')
    (g : Goal K W σ H0 S0 e0 At (M.bind (fixV v) k e') Q) (st : ∀ v', VAt K σ H0 H' S' e' v' w → Goal K W σ H0 S0 e0 At (k v' e') Q → P) : P := by
  cases v with
  | d y => exact st (.d y) (h.mono x fun i z => by cases z) g
  | new o => exact st (.new o) (h.mono x fun i z => by cases z) g
  | at_ i =>
    unfold M.bind fixV at g
    cases q : e'[i]? with
    | none => simp only [q] at g; exact g.elim
    | some s =>
      cases s with
      | no => simp only [q] at g; exact g.elim
      | sh d =>
        simp only [q] at g
        refine st (.d d) ?_ g
        obtain ⟨s, h1, h2, h3⟩ := h
        obtain ⟨v, k1, k2⟩ := A.at_ i _ q
        rw [h3] at k1
        cases k1
        exact k2
      | ow o =>
        simp only [q] at g
        exact st (.at_ i) (h.mono x fun j z => by cases z; exact ⟨_, q, rfl⟩) g
      | lk o =>
        simp only [q] at g
        exact st (.at_ i) (h.mono x fun j z => by cases z; exact ⟨_, q, rfl⟩) g
end

/-! ### how a value looks -/
def O.d : O → Option D
  | .lst xs => some (.lst xs)
  | .ins c ns xs => some (.ins c ns xs)
  | .dct _ _ => none
def SV.o : SV → Option O
  | .ow o => some o
  | .lk o => some o
  | _ => none
/-- the object -/
def vwO (e : Env) : Val → Option O
  | .d _ => none
  | .new o => some o
  | .at_ i => (e[i]?).bind SV.o
/-- as data -/
def vwD (e : Env) : Val → Option D
  | .d x => some x
  | .new o => o.d
  | .at_ i => ((e[i]?).bind SV.o).bind O.d
/-- the outermost by the heap, what is within by what never changes -/
def VRep (K : PySem.W.Frag) (H S : Hp) : D → V → Prop
  | .lst xs, v => ∃ a vs, v = .ref a ∧ H a = some (.lst vs) ∧ RepL K S xs vs
  | .ins c ns xs, v => ∃ a dx vs, v = .ref a ∧ H a = some (.ins (He.ga K c) dx (ns.zip vs)) ∧ ns.length = vs.length ∧ RepL K S xs vs
  | d, v => Rep K S d v
section
variable {K : PySem.W.Frag} {σ : St} {H0 H S : Hp} {e : Env}
theorem VRep.of {d : D} {v : V} (h : Rep K S d v) (sub : Same S H) : VRep K H S d v := by
  cases d with
  | lst xs =>
    obtain ⟨a, vs, h1, h2, h3⟩ := rep_lst.mp h
    exact ⟨a, vs, h1, sub _ _ h2, h3⟩
  | ins c ns xs =>
    obtain ⟨a, dx, vs, h1, h2, h3, h4⟩ := rep_ins.mp h
    exact ⟨a, dx, vs, h1, sub _ _ h2, h3, h4⟩
  | _ => exact h
theorem VRep.rep {d : D} {v : V} (h : VRep K H S d v) (sub : Same S H) : Rep K H d v := by
  cases d with
  | lst xs =>
    obtain ⟨a, vs, h1, h2, h3⟩ := h
    exact rep_lst.mpr ⟨a, vs, h1, h2, h3.same sub⟩
  | ins c ns xs =>
    obtain ⟨a, dx, vs, h1, h2, h3, h4⟩ := h
    exact rep_ins.mpr ⟨a, dx, vs, h1, h2, h3, h4.same sub⟩
  | tup xs => exact Rep.same sub (d := .tup xs) h
  | rol xs => exact Rep.same sub (d := .rol xs) h
  | non => exact Rep.same sub (d := .non) h
  | bl b => exact Rep.same sub (d := .bl b) h
  | int i => exact Rep.same sub (d := .int i) h
  | str x => exact Rep.same sub (d := .str x) h
  | ty x => exact Rep.same sub (d := .ty x) h
  | cls x => exact Rep.same sub (d := .cls x) h
  | exn a d ns xs => exact Rep.same sub (d := .exn a d ns xs) h
theorem vrep_of_O {o : O} {a : Addr} {d : D} (h : ORep K H S a o) (hd : o.d = some d) : VRep K H S d (.ref a) := by
  cases o with
  | lst xs =>
    cases hd
    obtain ⟨vs, h1, h2⟩ := h
    exact ⟨a, vs, rfl, h1, h2⟩
  | ins c ns xs =>
    cases hd
    obtain ⟨dx, vs, h1, h2, h3⟩ := h
    exact ⟨a, dx, vs, rfl, h1, h2, h3⟩
  | dct b kvs => cases hd
theorem VAt.obj {v : Val} {w : V} {o : O} (A : Abs K σ H S e) (h : VAt K σ H0 H S e v w) (hv : vwO e v = some o) : ∃ a, w = .ref a ∧ S a = none ∧ ORep K H S a o := by
  cases v with
  | d x => cases hv
  | new o' =>
    cases hv
    obtain ⟨a, h1, h2, h3, _⟩ := h
    exact ⟨a, h1, h2, h3⟩
  | at_ i =>
    obtain ⟨s, h1, h2, h3⟩ := h
    have q := A.at_ i s h1
    have hv : (e[i]?).bind SV.o = some o := hv
    rw [h1] at hv
    cases s with
    | no => cases h2
    | sh d => cases h2
    | ow o' =>
      cases hv
      obtain ⟨a, k1, k2, k3⟩ := q
      rw [h3] at k1
      cases k1
      exact ⟨a, rfl, k2, k3⟩
    | lk o' =>
      cases hv
      obtain ⟨a, k1, k2, k3⟩ := q
      rw [h3] at k1
      cases k1
      exact ⟨a, rfl, k2, k3⟩
theorem VAt.view {v : Val} {w : V} {d : D} (A : Abs K σ H S e) (h : VAt K σ H0 H S e v w) (hv : vwD e v = some d) : VRep K H S d w := by
  cases v with
  | d x => cases hv; exact VRep.of h A.sub
  | new o =>
    obtain ⟨a, rfl, _, h3⟩ := h.obj A (o := o) rfl
    exact vrep_of_O h3 hv
  | at_ i =>
    cases q : (e[i]?).bind SV.o with
    | none =>
      have hv : ((e[i]?).bind SV.o).bind O.d = some d := hv
      rw [q] at hv
      cases hv
    | some o =>
      obtain ⟨a, rfl, _, h3⟩ := h.obj A (o := o) q
      have hv : ((e[i]?).bind SV.o).bind O.d = some d := hv
      rw [q] at hv
      exact vrep_of_O h3 hv
theorem VAt.int {v : Val} {w : V} {i : Int} (A : Abs K σ H S e) (h : VAt K σ H0 H S e v w) (hv : vwD e v = some (.int i)) : w = .int i := rep_int.mp ((h.view A hv).rep A.sub)
theorem VAt.bl {v : Val} {w : V} {i : Bool} (A : Abs K σ H S e) (h : VAt K σ H0 H S e v w) (hv : vwD e v = some (.bl i)) : w = .bl i := rep_bl.mp ((h.view A hv).rep A.sub)
theorem VAt.str {v : Val} {w : V} {i : Str} (A : Abs K σ H S e) (h : VAt K σ H0 H S e v w) (hv : vwD e v = some (.str i)) : w = .str i := rep_str.mp ((h.view A hv).rep A.sub)
end

/-! ### goals' ends -/
section
variable {K : PySem.W.Frag} {W : WX} {σ : St} {H0 S0 H S : Hp} {e0 e : Env} {Q : VK}
theorem fin_d {x : D} {w : V} (A : Abs K σ H S e) (E : Ext σ e0 H0 S0 σ e H S) (r : Rep K S x w) (g : Goal K W σ H0 S0 e0 (vAt K σ H0) (.ok (.d x) e) Q) : Q w H := g H S w A E r
theorem fin_v {v : Val} {w : V} (A : Abs K σ H S e) (E : Ext σ e0 H0 S0 σ e H S) (r : VAt K σ H0 H S e v w) (g : Goal K W σ H0 S0 e0 (vAt K σ H0) (.ok v e) Q) : Q w H := g H S w A E r
theorem sat_upd {p : Addr} {o : HO} {x : Option (Option V)} (hp : H p = none) {s : SV} (h : SAt K x H S s) : SAt K x (upd H p o) S s := by
  cases s with
  | no => exact h
  | sh d => exact h
  | ow u =>
    obtain ⟨a, h1, h2, h3⟩ := h
    obtain ⟨z, hz⟩ := h3.there
    exact ⟨a, h1, h2, h3.mono (Same.refl _) (upd_ne (ne_of_none hz hp))⟩
  | lk u =>
    obtain ⟨a, h1, h2, h3⟩ := h
    obtain ⟨z, hz⟩ := h3.there
    exact ⟨a, h1, h2, h3.mono (Same.refl _) (upd_ne (ne_of_none hz hp))⟩
theorem sat_updS {p : Addr} {o : HO} {x : Option (Option V)} (hp : H p = none) {s : SV} (h : SAt K x H S s) (sm : Same S (upd S p o)) : SAt K x (upd H p o) (upd S p o) s := by
  cases s with
  | no => exact h
  | sh d =>
    obtain ⟨v, h1, h2⟩ := h
    exact ⟨v, h1, h2.same sm⟩
  | ow u =>
    obtain ⟨a, h1, h2, h3⟩ := h
    obtain ⟨z, hz⟩ := h3.there
    have ne := ne_of_none hz hp
    exact ⟨a, h1, by rw [upd_ne ne]; exact h2, h3.mono sm (upd_ne ne)⟩
  | lk u =>
    obtain ⟨a, h1, h2, h3⟩ := h
    obtain ⟨z, hz⟩ := h3.there
    have ne := ne_of_none hz hp
    exact ⟨a, h1, by rw [upd_ne ne]; exact h2, h3.mono sm (upd_ne ne)⟩
theorem same_upd {p : Addr} {o : HO} (hp : H p = none) : Same H (upd H p o) := fun b u h => by rw [upd_ne (ne_of_none h hp)]; exact h
/-- a new object at p, an own one -/
theorem abs_new {p : Addr} {o : HO} (A : Abs K σ H S e) (hp : H p = none) (ho : isTab o = false := by rfl) : Abs K σ (upd H p o) S e :=
  ⟨A.len, A.sub.trans (same_upd hp), fun i s h => sat_upd hp (A.at_ i s h), A.ap, tabs_new hp A.tab, A.nt, ot_upd A.ot ho⟩
theorem ext_new {p : Addr} {o : HO} (hp : H p = none) : Ext σ e H S σ e (upd H p o) S :=
  ⟨Same.refl _, fun b u h _ _ => ⟨same_upd hp b u h, fun _ => id⟩, fun b h => (same_upd hp).free h, fun _ _ h => .inl h, fun _ h => .inl h, fun i s h k => ⟨⟨s, h, k⟩, rfl⟩, tabs_new hp⟩
/-- a new object at p that never changes -/
theorem abs_newS {p : Addr} {o : HO} (A : Abs K σ H S e) (hp : H p = none) (ho : isTab o = false := by rfl) : Abs K σ (upd H p o) (upd S p o) e := by
  have sp : S p = none := A.sub.free hp
  refine ⟨A.len, fun b u h => ?_, fun i s h => sat_updS hp (A.at_ i s h) (same_upd sp), A.ap, tabs_new hp A.tab, nt_upd A.nt ho, ot_upd A.ot ho⟩
  by_cases z : b = p
  · subst z; rw [upd_same] at h; cases h; exact upd_same
  · rw [upd_ne z] at h; rw [upd_ne z]; exact A.sub b u h
theorem ext_newS {p : Addr} {o : HO} (A : Abs K σ H S e) (hp : H p = none) : Ext σ e H S σ e (upd H p o) (upd S p o) :=
  ⟨same_upd (A.sub.free hp), fun b u h _ _ => ⟨same_upd hp b u h, fun _ q => by rw [upd_ne (ne_of_none h hp)]; exact q⟩, fun b h => (same_upd hp).free h, fun _ _ h => .inl h, fun _ h => .inl h, fun i s h k => ⟨⟨s, h, k⟩, rfl⟩, tabs_new hp⟩
theorem not_had (A : Abs K σ H S e) {p : Addr} (hp : H p = none) : ¬ Had σ e p := fun h => by
  obtain ⟨_, u, hu⟩ := A.had_there h
  rw [hp] at hu
  cases hu
theorem fin_lst {p : Addr} {xs : List D} {vs : List V} (A : Abs K σ H S e) (E : Ext σ e0 H0 S0 σ e H S) (r : RepL K S xs vs) (hp : H p = none) (g : Goal K W σ H0 S0 e0 (vAt K σ H0) (.ok (.new (.lst xs)) e) Q) : Q (.ref p) (upd H p (.lst vs)) := by
  refine g _ _ _ (abs_new A hp) (E.trans (ext_new hp)) ⟨p, rfl, A.sub.free hp, ⟨vs, upd_same, r⟩, not_had A hp, E.tr p hp⟩
theorem fin_tup {p : Addr} {xs : List D} {vs : List V} (A : Abs K σ H S e) (E : Ext σ e0 H0 S0 σ e H S) (r : RepL K S xs vs) (hp : H p = none) (g : Goal K W σ H0 S0 e0 (vAt K σ H0) (.ok (.d (.tup xs)) e) Q) : Q (.ref p) (upd H p (.tup vs)) := by
  refine g _ _ _ (abs_newS A hp) (E.trans (ext_newS A hp)) (rep_tupS.mpr ⟨p, vs, rfl, upd_same, r.same (same_upd (A.sub.free hp))⟩)
end

/-! ### names, constants -/
def dVar (i : Nat) : M Val := fun e => match e[i]? with
  | some (.sh d) => .ok (.d d) e
  | some (.ow _) => .ok (.at_ i) e
  | some (.lk _) => .ok (.at_ i) e
  | _ => .bad
def dC (x : D) : M Val := fun e => .ok (.d x) e
section
variable {X : Cx} {W : WX} {pos : Pos}
theorem var_le {K : PySem.W.Frag} {i : Nat} {σ : St} {H : Hp} {Q : VK} (h : tD K W (dVar i) σ H Q) : tVar i σ H Q := by
  obtain ⟨S, e, A, g⟩ := h
  unfold dVar at g
  cases q : e[i]? with
  | none => simp only [q] at g; exact g.elim
  | some s =>
    have k := A.at_ i s q
    cases s with
    | no => simp only [q] at g; exact g.elim
    | sh d =>
      simp only [q] at g
      obtain ⟨v, h1, h2⟩ := k
      exact ⟨v, h1, fin_d A Ext.refl h2 g⟩
    | ow o =>
      simp only [q] at g
      obtain ⟨a, h1, h2, h3⟩ := k
      exact ⟨.ref a, h1, fin_v (v := .at_ i) A Ext.refl ⟨_, q, rfl, h1⟩ g⟩
    | lk o =>
      simp only [q] at g
      obtain ⟨a, h1, h2, h3⟩ := k
      exact ⟨.ref a, h1, fin_v (v := .at_ i) A Ext.refl ⟨_, q, rfl, h1⟩ g⟩
theorem de_var {i : Nat} {x : Str} (hN : X.N[i]? = some x) (hv : Vis X.env.scope x) (hd : (x == ("__debug__" : Str)) = false := by decide) (hcd : (x == ("__classdict__" : Str)) = false := by decide) : DE X W (.Name x pos) (dVar i) :=
  ⟨PE.weak (pe_var hN hv hd hcd) fun _ _ _ h => var_le h⟩
theorem de_c {ex : Expr} {v : V} {x : D} (h : PE X ex (tC v)) (r : ∀ S, Rep X.K S x v) : DE X W ex (dC x) := ⟨PE.weak h fun σ H Q k => by
  obtain ⟨S, e, A, g⟩ := k
  exact fin_d A Ext.refl (r S) g⟩
theorem de_int {i j} : DE X W (.Constant (.int i) j pos) (dC (.int i)) := de_c pe_int fun _ => rep_int.mpr rfl
theorem de_bl {i j} : DE X W (.Constant (.bool i) j pos) (dC (.bl i)) := de_c pe_bl fun _ => rep_bl.mpr rfl
theorem de_non {j} : DE X W (.Constant .none j pos) (dC .non) := de_c pe_non fun _ => rep_non.mpr rfl
/-- a module's constant -/
theorem de_glob {x : Str} {v : V} {u : Value} {d : D} (hg : Gl X x) (hm : X.mg x = some u) (r : RelV v u) (rd : ∀ S, Rep X.K S d v) (hd : (x == ("__debug__" : Str)) = false := by decide) : DE X W (.Name x pos) (dC d) := de_c (pe_glob hg hm r hd) rd
end

/-! ### two values -/
/-- an operation by values and its rule -/
def OpD (K : PySem.W.Frag) (op : Val → Val → M Val) (r : R2) : Prop :=
  ∀ (W : WX) (σ : St) (H0 S0 : Hp) (e0 : Env) (H S : Hp) (e : Env) (v u : Val) (w1 w2 : V) (Q : VK), Abs K σ H S e → Ext σ e0 H0 S0 σ e H S → VAt K σ H0 H S e v w1 → VAt K σ H0 H S e u w2 →
    Goal K W σ H0 S0 e0 (vAt K σ H0) (op v u e) Q → r w1 w2 H Q
def dBin (op : Val → Val → M Val) (fa fb : M Val) : M Val := M.bind fa fun v => M.bind fb fun u => M.bind (fixV v) fun v' => op v' u
section
variable {X : Cx} {W : WX} {pos : Pos} {a b : Expr} {fa fb : M Val} {op : Val → Val → M Val} {r : R2}
theorem bin_le {K : PySem.W.Frag} (hd : OpD K op r) {σ : St} {H : Hp} {Q : VK} (h : tD K W (dBin op fa fb) σ H Q) : tOp r (tD K W fa) (tD K W fb) σ H Q := by
  obtain ⟨S, e, A, g⟩ := h
  refine tDx.step A Ext.refl g fun v e1 H1 S1 w1 A1 E1 E1' v1 g1 => ?_
  refine tDx.step A1 E1 g1 fun u e2 H2 S2 w2 A2 E2 E2' v2 g2 => ?_
  refine fix_step v1 E2' A2 g2 fun v' v1' g3 => ?_
  exact hd W σ H S e H2 S2 e2 v' u w1 w2 Q A2 E2 v1' (VAt.base v2 E1'.tr) g3
theorem de_op {o : Operator} (ho : OpR X (binaryOp o) r) (hd : OpD X.K op r) (ha : DE X W a fa) (hb : DE X W b fb) : DE X W (.BinOp a o b pos) (dBin op fa fb) :=
  ⟨PE.weak (pe_op ho ha.pe hb.pe) fun _ _ _ h => bin_le hd h⟩
theorem de_cmp {o : CmpOp} (ho : OpR X (compareOp o) r) (hd : OpD X.K op r) (ha : DE X W a fa) (hb : DE X W b fb) (hm : behindInMarks o b = false) : DE X W (.Compare a [o] [b] pos) (dBin op fa fb) :=
  ⟨PE.weak (pe_cmpR ho ha.pe hb.pe hm) fun _ _ _ h => bin_le hd h⟩
/-- a value that is True or False, asked -/
def askB (v : Val) : M Bool := fun e => match v with
  | .d (.bl b) => .ok b e
  | _ => .bad
def dAsk (f : M Val) : M Bool := M.bind f askB
theorem ask_le {K : PySem.W.Frag} {f : M Val} {σ : St} {H : Hp} {Q : Bool → Hp → Prop} (h : tDB K W (dAsk f) σ H Q) : tD K W f σ H fun x H1 => ∃ c, x = .bl c ∧ Q c H1 := by
  obtain ⟨S, e, A, g⟩ := h
  refine tDx.step A Ext.refl g fun v e1 H1 S1 w1 A1 E1 E1' v1 g1 => ?_
  unfold askB at g1
  split at g1
  · rename_i b
    have v1 : Rep K S1 (.bl b) w1 := v1
    exact ⟨b, rep_bl.mp v1, g1 H1 S1 b A1 E1 rfl⟩
  · exact g1.elim
theorem dt_cmp {o : CmpOp} (ho : OpR X (compareOp o) r) (hd : OpD X.K op r) (ha : DE X W a fa) (hb : DE X W b fb) (hm : behindInMarks o b = false) : DT X W (.Compare a [o] [b] pos) (dAsk (dBin op fa fb)) :=
  ⟨PT.weak (pt_cmpR ho ha.pe hb.pe hm) fun _ _ _ h => bin_le hd (ask_le h)⟩
/-- an expression that gives True or False, as a test -/
theorem dt_val {ex : Expr} {f : M Val} (h : DE X W ex f) (he : ∀ whole, isTrue ex X.env whole = (do let v ← whole; standAt ex.pos; holding [v] (truthy v)) := by intro _; rfl) : DT X W ex (dAsk f) :=
  ⟨PT.weak (pt_val h.pe he) fun _ _ _ h => ask_le h⟩
end
end DL

set_option maxHeartbeats 4000000
/-! DL2: arithmetic, comparisons, membership; and, or, not, if; displays; arguments. -/
namespace DL
open PySem PySem.Spec PyProof.Rows L2
variable [TabsT]

/-! ### data as the model's data -/
mutual
def pd : D → PyData
  | .non => .none
  | .bl b => .bool b
  | .int i => .int i
  | .str x => .str x
  | .tup xs => .tuple (pdL xs)
  | .lst xs => .list (pdL xs)
  | .rol xs => .list (pdL xs)
  | .ins _ _ _ => .none
  | .ty _ => .none
  | .cls _ => .none
  | .exn _ _ _ _ => .none
def pdL : List D → List PyData
  | [] => []
  | d :: ds => pd d :: pdL ds
end
/-- no own instances within, at most so deep -/
def okN : Nat → D → Bool
  | _, .non => true
  | _, .bl _ => true
  | _, .int _ => true
  | _, .str x => PyData.canLay0 (.str x)
  | 0, _ => false
  | n + 1, .tup xs => xs.all (okN n)
  | n + 1, .lst xs => xs.all (okN n)
  | n + 1, .rol xs => xs.all (okN n)
  | _ + 1, .ins _ _ _ => false
  | _ + 1, .ty _ => false
  | _ + 1, .cls _ => false
  | _ + 1, .exn _ _ _ _ => false
theorem okN_tup {n : Nat} {xs : List D} : okN (n + 1) (.tup xs) = xs.all (okN n) := by unfold okN; rfl
theorem okN_lst {n : Nat} {xs : List D} : okN (n + 1) (.lst xs) = xs.all (okN n) := by unfold okN; rfl
theorem okN_int {n : Nat} {i : Int} : okN n (.int i) = true := by cases n <;> rfl
theorem okN_rol {n : Nat} {xs : List D} : okN (n + 1) (.rol xs) = xs.all (okN n) := by unfold okN; rfl
theorem okN_str {n : Nat} {i : Str} : okN n (.str i) = PyData.canLay0 (.str i) := by cases n <;> rfl
theorem okN_ins {n : Nat} {c ns xs} : okN n (.ins c ns xs) = false := by cases n <;> rfl
theorem okN_ty {n : Nat} {c} : okN n (.ty c) = false := by cases n <;> rfl
theorem okN_cls {n : Nat} {c} : okN n (.cls c) = false := by cases n <;> rfl
theorem okN_exn {n : Nat} {a d ns xs} : okN n (.exn a d ns xs) = false := by cases n <;> rfl
section
variable {K : PySem.W.Frag} {H : Hp}
theorem dp_of : ∀ (n : Nat) {d : D} {v : V}, okN n d = true → Rep K H d v → Dp K H v (pd d) ∧ (pd d).canLay0 = true ∧ (pd d).depth ≤ n
  | n, .non, v, _, h => by rw [rep_non] at h; subst h; exact ⟨.non, rfl, Nat.zero_le _⟩
  | n, .bl b, v, _, h => by rw [rep_bl] at h; subst h; exact ⟨.bl b, rfl, Nat.zero_le _⟩
  | n, .int i, v, _, h => by rw [rep_int] at h; subst h; exact ⟨.int i, rfl, Nat.zero_le _⟩
  | n, .str x, v, k, h => by rw [okN_str] at k; rw [rep_str] at h; subst h; exact ⟨.str x, k, Nat.zero_le _⟩
  | n, .ins c ns xs, v, k, _ => by rw [okN_ins] at k; cases k
  | n, .ty c, v, k, _ => by rw [okN_ty] at k; cases k
  | n, .cls c, v, k, _ => by rw [okN_cls] at k; cases k
  | n, .exn a d ns xs, v, k, _ => by rw [okN_exn] at k; cases k
  | 0, .tup xs, v, k, h => by cases k
  | 0, .lst xs, v, k, h => by cases k
  | 0, .rol xs, v, k, h => by cases k
  | n + 1, .tup xs, v, k, h => by
    obtain ⟨a, vs, rfl, h1, h2⟩ := rep_tupQ h
    rw [okN_tup] at k
    have all : ∀ (ds : List D) (us : List V), ds.all (okN n) = true → RepL K H ds us → DpAll K H us (pdL ds) ∧ PyData.canLayAll0 (pdL ds) = true ∧ PyData.depthAll (pdL ds) ≤ n := by
      intro ds
      induction ds with
      | nil => intro us _ r; rw [repL_nil] at r; subst r; exact ⟨.nil, rfl, Nat.zero_le _⟩
      | cons d ds ih =>
        intro us q r
        obtain ⟨u, w, rfl, r1, r2⟩ := repL_cons.mp r
        rw [List.all_cons, Bool.and_eq_true] at q
        obtain ⟨a1, a2, a3⟩ := dp_of n q.1 r1
        obtain ⟨b1, b2, b3⟩ := ih w q.2 r2
        exact ⟨.cons a1 b1, by show (PyData.canLay0 (pd d) && PyData.canLayAll0 (pdL ds)) = true; rw [a2, b2]; rfl, by show max (PyData.depth (pd d)) (PyData.depthAll (pdL ds)) ≤ n; omega⟩
    obtain ⟨b1, b2, b3⟩ := all xs vs k h2
    exact ⟨.tup h1 b1, b2, Nat.succ_le_succ b3⟩
  | n + 1, .lst xs, v, k, h => by
    obtain ⟨a, vs, rfl, h1, h2⟩ := rep_lst.mp h
    rw [okN_lst] at k
    have all : ∀ (ds : List D) (us : List V), ds.all (okN n) = true → RepL K H ds us → DpAll K H us (pdL ds) ∧ PyData.canLayAll0 (pdL ds) = true ∧ PyData.depthAll (pdL ds) ≤ n := by
      intro ds
      induction ds with
      | nil => intro us _ r; rw [repL_nil] at r; subst r; exact ⟨.nil, rfl, Nat.zero_le _⟩
      | cons d ds ih =>
        intro us q r
        obtain ⟨u, w, rfl, r1, r2⟩ := repL_cons.mp r
        rw [List.all_cons, Bool.and_eq_true] at q
        obtain ⟨a1, a2, a3⟩ := dp_of n q.1 r1
        obtain ⟨b1, b2, b3⟩ := ih w q.2 r2
        exact ⟨.cons a1 b1, by show (PyData.canLay0 (pd d) && PyData.canLayAll0 (pdL ds)) = true; rw [a2, b2]; rfl, by show max (PyData.depth (pd d)) (PyData.depthAll (pdL ds)) ≤ n; omega⟩
    obtain ⟨b1, b2, b3⟩ := all xs vs k h2
    exact ⟨.lst (.of h1) b1, b2, Nat.succ_le_succ b3⟩
  | n + 1, .rol xs, v, k, h => by
    obtain ⟨a, vs, rfl, h1, h2⟩ := rep_rol.mp h
    rw [okN_rol] at k
    have all : ∀ (ds : List D) (us : List V), ds.all (okN n) = true → RepL K H ds us → DpAll K H us (pdL ds) ∧ PyData.canLayAll0 (pdL ds) = true ∧ PyData.depthAll (pdL ds) ≤ n := by
      intro ds
      induction ds with
      | nil => intro us _ r; rw [repL_nil] at r; subst r; exact ⟨.nil, rfl, Nat.zero_le _⟩
      | cons d ds ih =>
        intro us q r
        obtain ⟨u, w, rfl, r1, r2⟩ := repL_cons.mp r
        rw [List.all_cons, Bool.and_eq_true] at q
        obtain ⟨a1, a2, a3⟩ := dp_of n q.1 r1
        obtain ⟨b1, b2, b3⟩ := ih w q.2 r2
        exact ⟨.cons a1 b1, by show (PyData.canLay0 (pd d) && PyData.canLayAll0 (pdL ds)) = true; rw [a2, b2]; rfl, by show max (PyData.depth (pd d)) (PyData.depthAll (pdL ds)) ≤ n; omega⟩
    obtain ⟨b1, b2, b3⟩ := all xs vs k h2
    exact ⟨.lst h1 b1, b2, Nat.succ_le_succ b3⟩
theorem shaped_of {d : D} {v : V} (k : okN 60 d = true) (h : Rep K H d v) : Dp K H v (pd d) ∧ SeqAt.shaped (pd d) = true := by
  obtain ⟨a, b, c⟩ := dp_of 60 k h
  refine ⟨a, ?_⟩
  unfold SeqAt.shaped
  rw [b, decide_eq_true (by omega)]
  rfl
end
/-- == of data -/
def eqvD (a b : D) : Bool := PyData.eqv (pd a) (pd b)

/-! ### rules by values that HandS lacks -/
section
variable {X : Cx}
/-- list + list, whatever may be read -/
def rCatL (K : PySem.W.Frag) : R2 := fun x y H Q => ∃ l b xs zs, x = .ref l ∧ y = .ref b ∧ SqL K H l xs ∧ SqL K H b zs ∧ xs.length + zs.length ≤ sizeLine ∧ ∀ p, H p = none → Q (.ref p) (upd H p (.lst (xs ++ zs)))
def rInT (K : PySem.W.Frag) : R2 := fun x y H Q => ∃ d ds, Dp K H x d ∧ Dp K H y (.tuple ds) ∧ SeqAt.shaped d = true ∧ SeqAt.shaped (.tuple ds) = true ∧ Q (.bl (ds.any fun z => PyData.eqv z d)) H
def rNotInT (K : PySem.W.Frag) : R2 := fun x y H Q => ∃ d ds, Dp K H x d ∧ Dp K H y (.tuple ds) ∧ SeqAt.shaped d = true ∧ SeqAt.shaped (.tuple ds) = true ∧ Q (.bl (!ds.any fun z => PyData.eqv z d)) H
theorem op_inT (hu : X.A.units + 65 < cLine) : OpR X (compareOp .In) (rInT X.K) := by
  intro pins s σ H x y v u Q I rx ry h
  obtain ⟨d, ds, hd, he, sd, se, q⟩ := h
  obtain ⟨as, r1⟩ := Dp.reads I d x v hd rx
  obtain ⟨bs, r2⟩ := Dp.reads I (.tuple ds) y u he ry
  exact SeqAt.in_tuple_reads r2 r1 (SeqAt.canLay_of_shaped se) (SeqAt.canLay_of_shaped sd) (room_in_shaped sd hu) ⟨.bl _, H, I, rfl, q⟩
theorem op_notInT (hu : X.A.units + 65 < cLine) : OpR X (compareOp .NotIn) (rNotInT X.K) := by
  intro pins s σ H x y v u Q I rx ry h
  obtain ⟨d, ds, hd, he, sd, se, q⟩ := h
  obtain ⟨as, r1⟩ := Dp.reads I d x v hd rx
  obtain ⟨bs, r2⟩ := Dp.reads I (.tuple ds) y u he ry
  exact SeqAt.notIn_tuple_reads r2 r1 (SeqAt.canLay_of_shaped se) (SeqAt.canLay_of_shaped sd) (room_in_shaped sd hu) ⟨.bl _, H, I, rfl, q⟩
end
end DL

set_option maxHeartbeats 4000000
/-! DL3: operators by values. -/
namespace DL
open PySem PySem.Spec PyProof.Rows L2
variable [TabsT]

def addV (v u : Val) : M Val := fun e => match vwD e v, vwD e u with
  | some (.int i), some (.int j) => .ok (.d (.int (i + j))) e
  | some (.str x), some (.str y) => if x.length + y.length ≤ sizeLine then .ok (.d (.str (x ++ y))) e else .bad
  | some (.lst xs), some (.lst ys) => if xs.length + ys.length ≤ sizeLine then .ok (.new (.lst (xs ++ ys))) e else .bad
  | some (.tup xs), some (.tup ys) => if xs.length + ys.length ≤ sizeLine then .ok (.d (.tup (xs ++ ys))) e else .bad
  | _, _ => .bad
def rStrAdd : R2 := fun x y H Q => ∃ i j, x = .str i ∧ y = .str j ∧ i.length + j.length ≤ sizeLine ∧ Q (.str (i ++ j)) H
def rAddD (K : PySem.W.Frag) : R2 := fun x y H Q => rI0 (fun i j => .int (i + j)) x y H Q ∨ rStrAdd x y H Q ∨ rCat x y H Q ∨ rCatA K x y H Q
theorem op_addD {X : Cx} : OpR X (binaryOp .Add) (rAddD X.K) := op_add.or (OpR.or (op_add_str) (op_cat.or op_catA))
section
variable {K : PySem.W.Frag}
theorem addD : OpD K addV (rAddD K) := by
  intro W σ H0 S0 e0 H S e v u w1 w2 Q A E h1 h2 g
  unfold addV at g
  split at g
  · rename_i i j q1 q2
    exact .inl ⟨i, j, h1.int A q1, h2.int A q2, fin_d A E (rep_int.mpr rfl) g⟩
  · rename_i x y q1 q2
    split at g
    · rename_i hz
      exact .inr (.inl ⟨x, y, h1.str A q1, h2.str A q2, hz, fin_d A E (rep_str.mpr rfl) g⟩)
    · exact g.elim
  · rename_i xs ys q1 q2
    split at g
    · rename_i hz
      obtain ⟨a, vs, rfl, k1, k2⟩ := h1.view A q1
      obtain ⟨b, us, rfl, k3, k4⟩ := h2.view A q2
      exact .inr (.inr (.inl ⟨a, b, vs, us, rfl, rfl, k1, k3, by rw [← k2.length, ← k4.length]; exact hz, fun p hp => fin_lst A E (k2.append k4) hp g⟩))
    · exact g.elim
  · rename_i xs ys q1 q2
    split at g
    · rename_i hz
      have r1 : Rep K S (.tup xs) w1 := h1.view A q1
      have r2 : Rep K S (.tup ys) w2 := h2.view A q2
      obtain ⟨a, vs, rfl, k1, k2⟩ := rep_tupQ r1
      obtain ⟨b, us, rfl, k3, k4⟩ := rep_tupQ r2
      refine .inr (.inr (.inr ⟨a, b, vs, us, rfl, rfl, sqT_same A.sub k1, sqT_same A.sub k3, by rw [← k2.length, ← k4.length]; exact hz, fun z => ?_, fun z1 z2 => ?_, fun z1 z2 p hp => fin_tup A E (k2.append k4) hp g⟩))
      · have l := k2.length
        rw [z] at l
        have e1 : xs = [] := List.eq_nil_of_length_eq_zero l
        subst e1
        exact fin_d A E r2 g
      · have l := k4.length
        rw [z2] at l
        have e1 : ys = [] := List.eq_nil_of_length_eq_zero l
        subst e1
        rw [List.append_nil] at g
        exact fin_d A E r1 g
    · exact g.elim
  · exact g.elim
/-- two ints with a condition -/
def intV (C : Int → Int → Bool) (f : Int → Int → D) (v u : Val) : M Val := fun e => match vwD e v, vwD e u with
  | some (.int i), some (.int j) => if C i j then .ok (.d (f i j)) e else .bad
  | _, _ => .bad
theorem intD {C : Int → Int → Bool} {P : Int → Int → Prop} {f : Int → Int → D} {g : Int → Int → V} (hC : ∀ i j, C i j = true → P i j) (hf : ∀ S i j, Rep K S (f i j) (g i j)) : OpD K (intV C f) (rI P g) := by
  intro W σ H0 S0 e0 H S e v u w1 w2 Q A E h1 h2 k
  unfold intV at k
  split at k
  · rename_i i j q1 q2
    split at k
    · rename_i hc
      exact ⟨i, j, h1.int A q1, h2.int A q2, hC i j hc, fin_d A E (hf S i j) k⟩
    · exact k.elim
  · exact k.elim
theorem intD0 {f : Int → Int → D} {g : Int → Int → V} (hf : ∀ S i j, Rep K S (f i j) (g i j)) : OpD K (intV (fun _ _ => true) f) (rI0 g) := by
  intro W σ H0 S0 e0 H S e v u w1 w2 Q A E h1 h2 k
  unfold intV at k
  split at k
  · rename_i i j q1 q2
    rw [if_pos rfl] at k
    exact ⟨i, j, h1.int A q1, h2.int A q2, fin_d A E (hf S i j) k⟩
  · exact k.elim
abbrev subV := intV (fun _ _ => true) fun i j => .int (i - j)
abbrev mulV := intV (fun i j => decide ((-(2 ^ 64) < i ∧ i < 2 ^ 64) ∨ (-(2 ^ 64) < j ∧ j < 2 ^ 64))) fun i j => .int (i * j)
abbrev modV := intV (fun _ j => decide (0 < j)) fun i j => .int (i % j)
abbrev divV := intV (fun _ j => decide (0 < j ∧ j < 1073741824)) fun i j => .int (i / j)
abbrev powV := intV (fun i j => decide (0 ≤ j ∧ j ≤ 1000000 ∧ i.natAbs < 2 ^ 64)) fun i j => .int (i ^ j.toNat)
abbrev ltV := intV (fun _ _ => true) fun i j => .bl (decide (i < j))
abbrev leV := intV (fun _ _ => true) fun i j => .bl (decide (i ≤ j))
abbrev gtV := intV (fun _ _ => true) fun i j => .bl (decide (j < i))
abbrev geV := intV (fun _ _ => true) fun i j => .bl (decide (j ≤ i))
theorem mulD : OpD K mulV (rI CMul fun i j => .int (i * j)) := intD (fun _ _ h => by unfold CMul; exact of_decide_eq_true h) fun _ _ _ => rep_int.mpr rfl
theorem modD : OpD K modV (rI (fun _ j => 0 < j) fun i j => .int (i % j)) := intD (fun _ _ h => of_decide_eq_true h) fun _ _ _ => rep_int.mpr rfl
theorem divD : OpD K divV (rI CDiv fun i j => .int (i / j)) := intD (fun _ _ h => by unfold CDiv; exact of_decide_eq_true h) fun _ _ _ => rep_int.mpr rfl
theorem powD : OpD K powV (rI CPow fun i j => .int (i ^ j.toNat)) := intD (fun _ _ h => by unfold CPow; exact of_decide_eq_true h) fun _ _ _ => rep_int.mpr rfl
theorem ltD : OpD K ltV (rI0 fun i j => .bl (decide (i < j))) := intD0 fun _ _ _ => rep_bl.mpr rfl
theorem gtD : OpD K gtV (rI0 fun i j => .bl (decide (j < i))) := intD0 fun _ _ _ => rep_bl.mpr rfl
theorem geD : OpD K geV (rI0 fun i j => .bl (decide (j ≤ i))) := intD0 fun _ _ _ => rep_bl.mpr rfl
/-- two data with a condition, an answer True or False -/
def boolV (C : D → D → Bool) (f : D → D → Bool) (v u : Val) : M Val := fun e => match vwD e v, vwD e u with
  | some a, some b => if C a b then .ok (.d (.bl (f a b))) e else .bad
  | _, _ => .bad
theorem eqD_le {op : Val → Val → M Val} {r : R2} {C f : D → D → Bool} (ho : op = boolV C f) (hr : ∀ x y H Q a b, C a b = true → Rep K H a x → Rep K H b y → Q (.bl (f a b)) H → r x y H Q) : OpD K op r := by
  subst ho
  intro W σ H0 S0 e0 H S e v u w1 w2 Q A E h1 h2 k
  unfold boolV at k
  split at k
  · rename_i a b q1 q2
    split at k
    · rename_i hc
      exact hr w1 w2 H Q a b hc ((h1.view A q1).rep A.sub) ((h2.view A q2).rep A.sub) (fin_d A E (rep_bl.mpr rfl) k)
    · exact k.elim
  · exact k.elim
def okEq (a b : D) : Bool := okN 60 a && okN 60 b
abbrev eqV := boolV okEq fun a b => eqvD a b
abbrev neV := boolV okEq fun a b => !eqvD a b
theorem eqD : OpD K eqV (rEqD K) := eqD_le rfl fun x y H Q a b hc h1 h2 q => by
  obtain ⟨c1, c2⟩ := Bool.and_eq_true_iff.mp hc
  obtain ⟨d1, s1⟩ := shaped_of c1 h1
  obtain ⟨d2, s2⟩ := shaped_of c2 h2
  exact ⟨_, _, d1, d2, s1, s2, q⟩
theorem neD : OpD K neV (rNeD K) := eqD_le rfl fun x y H Q a b hc h1 h2 q => by
  obtain ⟨c1, c2⟩ := Bool.and_eq_true_iff.mp hc
  obtain ⟨d1, s1⟩ := shaped_of c1 h1
  obtain ⟨d2, s2⟩ := shaped_of c2 h2
  exact ⟨_, _, d1, d2, s1, s2, q⟩
/-- the items of a list or tuple -/
def itsD : D → List D
  | .lst xs => xs
  | .rol xs => xs
  | .tup xs => xs
  | _ => []
def isSeq : D → Bool
  | .lst _ => true
  | .rol _ => true
  | .tup _ => true
  | _ => false
def okIn (a b : D) : Bool := okN 60 a && (okN 60 b && isSeq b)
def hasD (a : D) (xs : List D) : Bool := xs.any fun z => eqvD z a
abbrev inV := boolV okIn fun a b => hasD a (itsD b)
abbrev niV := boolV okIn fun a b => !hasD a (itsD b)
theorem pdL_map : ∀ xs : List D, pdL xs = xs.map pd
  | [] => rfl
  | _ :: xs => congrArg _ (pdL_map xs)
theorem has_any (a : D) (xs : List D) : ((pdL xs).any fun z => PyData.eqv z (pd a)) = hasD a xs := by
  rw [pdL_map, List.any_map]
  rfl
def rInA (K : PySem.W.Frag) : R2 := fun x y H Q => rInD K x y H Q ∨ rInT K x y H Q
def rNiA (K : PySem.W.Frag) : R2 := fun x y H Q => rNotInD K x y H Q ∨ rNotInT K x y H Q
theorem op_inA {X : Cx} (hu : X.A.units + 65 < cLine) : OpR X (compareOp .In) (rInA X.K) := (op_inD hu).or (op_inT hu)
theorem op_niA {X : Cx} (hu : X.A.units + 65 < cLine) : OpR X (compareOp .NotIn) (rNiA X.K) := (op_notInD hu).or (op_notInT hu)
theorem inD : OpD K inV (rInA K) := eqD_le rfl fun x y H Q a b hc h1 h2 q => by
  obtain ⟨c1, c23⟩ := Bool.and_eq_true_iff.mp hc
  obtain ⟨c2, c3⟩ := Bool.and_eq_true_iff.mp c23
  obtain ⟨d1, s1⟩ := shaped_of c1 h1
  obtain ⟨d2, s2⟩ := shaped_of c2 h2
  cases b with
  | lst xs => exact .inl ⟨_, _, d1, d2, s1, s2, by rw [has_any]; exact q⟩
  | rol xs => exact .inl ⟨_, _, d1, d2, s1, s2, by rw [has_any]; exact q⟩
  | tup xs => exact .inr ⟨_, _, d1, d2, s1, s2, by rw [has_any]; exact q⟩
  | _ => cases c3
theorem niD : OpD K niV (rNiA K) := eqD_le rfl fun x y H Q a b hc h1 h2 q => by
  obtain ⟨c1, c23⟩ := Bool.and_eq_true_iff.mp hc
  obtain ⟨c2, c3⟩ := Bool.and_eq_true_iff.mp c23
  obtain ⟨d1, s1⟩ := shaped_of c1 h1
  obtain ⟨d2, s2⟩ := shaped_of c2 h2
  cases b with
  | lst xs => exact .inl ⟨_, _, d1, d2, s1, s2, by rw [has_any]; exact q⟩
  | rol xs => exact .inl ⟨_, _, d1, d2, s1, s2, by rw [has_any]; exact q⟩
  | tup xs => exact .inr ⟨_, _, d1, d2, s1, s2, by rw [has_any]; exact q⟩
  | _ => cases c3
/-- is None, is not None -/
def isN : D → Bool
  | .non => true
  | _ => false
theorem isN_rep {H : Hp} {a : D} {x : V} (h : Rep K H a x) : decide (x = .non) = isN a := by
  cases a with
  | non => rw [rep_non] at h; subst h; rfl
  | bl b => rw [rep_bl] at h; subst h; rfl
  | int b => rw [rep_int] at h; subst h; rfl
  | str b => rw [rep_str] at h; subst h; rfl
  | tup xs => obtain ⟨a, vs, rfl, _⟩ := rep_tupQ h; rfl
  | lst xs => obtain ⟨a, vs, rfl, _⟩ := rep_lst.mp h; rfl
  | rol xs => obtain ⟨a, vs, rfl, _⟩ := rep_rol.mp h; rfl
  | ins c ns xs => obtain ⟨a, dx, vs, rfl, _⟩ := rep_ins.mp h; rfl
  | ty b => rw [rep_ty] at h; subst h; rfl
  | cls b => rw [rep_cls] at h; subst h; rfl
  | exn a d ns xs => obtain ⟨vs, rfl, _⟩ := rep_exn.mp h; rfl
abbrev isV := boolV (fun _ b => isN b) fun a _ => isN a
abbrev isntV := boolV (fun _ b => isN b) fun a _ => !isN a
theorem isD : OpD K isV (fun x y H Q => y = .non ∧ Q (.bl (decide (x = .non))) H) := eqD_le rfl fun x y H Q a b hc h1 h2 q => by
  cases b with
  | non => exact ⟨rep_non.mp h2, by rw [isN_rep h1]; exact q⟩
  | _ => cases hc
theorem isntD : OpD K isntV (fun x y H Q => y = .non ∧ Q (.bl (!decide (x = .non))) H) := eqD_le rfl fun x y H Q a b hc h1 h2 q => by
  cases b with
  | non => exact ⟨rep_non.mp h2, by rw [isN_rep h1]; exact q⟩
  | _ => cases hc
/-- is True, is not True of truth values -/
def twoB (a b : D) : Bool := match a, b with
  | .bl _, .bl _ => true
  | _, _ => false
def sameB (a b : D) : Bool := match a, b with
  | .bl x, .bl y => decide (x = y)
  | _, _ => false
abbrev isbV := boolV twoB sameB
abbrev isntbV := boolV twoB fun a b => !sameB a b
end

/-! ### one value -/
def dUn (op : Val → M Val) (f : M Val) : M Val := M.bind f op
def negV (v : Val) : M Val := fun e => match vwD e v with
  | some (.int i) => .ok (.d (.int (-i))) e
  | _ => .bad
section
variable {X : Cx} {W : WX} {pos : Pos} {a b c ex : Expr} {fa fb f : M Val} {fc : M Bool} {rest : List Expr}
/-- not, as a value -/
def notV (v : Val) : M Val := fun e => match v with
  | .d (.bl b) => .ok (.d (.bl (!b))) e
  | _ => .bad
theorem de_not (ha : DE X W a fa) : DE X W (.UnaryOp .Not a pos) (dUn notV fa) := ⟨PE.weak (pe_not ha.pe) fun σ H Q h => by
  obtain ⟨S, e, A, g⟩ := h
  refine tDx.step A Ext.refl g fun v e1 H1 S1 w1 A1 E1 _ v1 k => ?_
  unfold notV at k
  split at k
  · rename_i i
    exact ⟨i, rep_bl.mp (show Rep X.K S1 (.bl i) w1 from v1), fin_d A1 E1 (rep_bl.mpr rfl) k⟩
  · exact k.elim⟩
/-- and, or, as values: all but the last True or False -/
def andV (fb : M Val) (v : Val) : M Val := fun e => match v with
  | .d (.bl true) => fb e
  | .d (.bl false) => .ok (.d (.bl false)) e
  | _ => .bad
def orV (fb : M Val) (v : Val) : M Val := fun e => match v with
  | .d (.bl true) => .ok (.d (.bl true)) e
  | .d (.bl false) => fb e
  | _ => .bad
def dAnd (fa fb : M Val) : M Val := M.bind fa (andV fb)
def dOr (fa fb : M Val) : M Val := M.bind fa (orV fb)
/-- a goal that began earlier, handed to a part that ends it -/
theorem tD_last {K : PySem.W.Frag} {σ : St} {H0 S0 H S : Hp} {e0 e : Env} {f : M Val} {Q : VK} (A : Abs K σ H S e) (E : Ext σ e0 H0 S0 σ e H S) (g : Goal K W σ H0 S0 e0 (vAt K σ H0) (f e) Q) : tD K W f σ H Q := by
  refine ⟨S, e, A, ?_⟩
  cases q : f e with
  | ok v e' => rw [q] at g; exact fun H' S' w A' E' k => g H' S' w A' (E.trans E') (k.base E.tr)
  | er x e' => rw [q] at g; exact fun H' S' c d A' E' k => g H' S' c d A' (E.trans E') k
  | bad => rw [q] at g; exact g
theorem tDB_last {K : PySem.W.Frag} {σ : St} {H0 S0 H S : Hp} {e0 e : Env} {f : M Bool} {Q : Bool → Hp → Prop} (A : Abs K σ H S e) (E : Ext σ e0 H0 S0 σ e H S) (g : Goal K W σ H0 S0 e0 (bAt σ H0) (f e) Q) : tDB K W f σ H Q := by
  refine ⟨S, e, A, ?_⟩
  cases q : f e with
  | ok v e' => rw [q] at g; exact fun H' S' w A' E' k => g H' S' w A' (E.trans E') k
  | er x e' => rw [q] at g; exact fun H' S' c d A' E' k => g H' S' c d A' (E.trans E') k
  | bad => rw [q] at g; exact g
theorem de_one {op} (h : DE X W a fa) : DE X W (.BoolOp op [a] pos) fa := ⟨pe_one h.pe⟩
theorem de_and (ha : DE X W a fa) (hb : DE X W (.BoolOp .And (b :: rest) pos) fb) : DE X W (.BoolOp .And (a :: b :: rest) pos) (dAnd fa fb) := ⟨PE.weak (pe_and ha.pe hb.pe) fun σ H Q h => by
  obtain ⟨S, e, A, g⟩ := h
  refine tDx.step A Ext.refl g fun v e1 H1 S1 w1 A1 E1 _ v1 k => ?_
  unfold andV at k
  split at k
  · exact ⟨true, rep_bl.mp (show Rep X.K S1 (.bl true) w1 from v1), by rw [if_pos rfl]; exact tD_last A1 E1 k⟩
  · exact ⟨false, rep_bl.mp (show Rep X.K S1 (.bl false) w1 from v1), by rw [if_neg Bool.false_ne_true]; exact fin_d A1 E1 (rep_bl.mpr rfl) k⟩
  · exact k.elim⟩
/-! ### tests -/
def tAndB (fa fb : M Bool) : M Bool := M.bind fa fun b => if b = true then fb else M.ret false
def tOrB (fa fb : M Bool) : M Bool := M.bind fa fun b => if b = true then M.ret true else fb
def tNotB (fa : M Bool) : M Bool := M.bind fa fun b => M.ret (!b)
structure DW (X : Cx) (W : WX) (e : Expr) (f : M Bool) : Prop where
  pw : PW X e (tDB X.K W f)
variable {ga gb : M Bool}
theorem DW.dt (h : DW X W ex ga) : DT X W ex ga := ⟨h.pw.pt⟩
theorem dw_and1 (ha : DT X W a ga) : DW X W (.BoolOp .And [a] pos) ga := ⟨pw_and1 ha.pt⟩
theorem dw_or1 (ha : DT X W a ga) : DW X W (.BoolOp .Or [a] pos) ga := ⟨pw_or1 ha.pt⟩
theorem dw_and (ha : DT X W a ga) (hb : DW X W (.BoolOp .And (b :: rest) pos) gb) : DW X W (.BoolOp .And (a :: b :: rest) pos) (tAndB ga gb) := ⟨PW.weak (pw_and ha.pt hb.pw) fun σ H Q h => by
  obtain ⟨S, e, A, g⟩ := h
  refine tDx.step A Ext.refl g fun v e1 H1 S1 w1 A1 E1 _ v1 k => ?_
  cases v1
  cases v with
  | true => rw [if_pos rfl] at k ⊢; exact tDB_last A1 E1 k
  | false => rw [if_neg Bool.false_ne_true] at k ⊢; exact k H1 S1 false A1 E1 rfl⟩
theorem dw_or (ha : DT X W a ga) (hb : DW X W (.BoolOp .Or (b :: rest) pos) gb) : DW X W (.BoolOp .Or (a :: b :: rest) pos) (tOrB ga gb) := ⟨PW.weak (pw_or ha.pt hb.pw) fun σ H Q h => by
  obtain ⟨S, e, A, g⟩ := h
  refine tDx.step A Ext.refl g fun v e1 H1 S1 w1 A1 E1 _ v1 k => ?_
  cases v1
  cases v with
  | true => rw [if_pos rfl] at k ⊢; exact k H1 S1 true A1 E1 rfl
  | false => rw [if_neg Bool.false_ne_true] at k ⊢; exact tDB_last A1 E1 k⟩
theorem dt_not (ha : DT X W a ga) : DT X W (.UnaryOp .Not a pos) (tNotB ga) := ⟨PT.weak (pt_not ha.pt) fun σ H Q h => by
  obtain ⟨S, e, A, g⟩ := h
  refine tDx.step A Ext.refl g fun v e1 H1 S1 w1 A1 E1 _ v1 k => ?_
  cases v1
  exact k H1 S1 (!v) A1 E1 rfl⟩
def dIf (fc : M Bool) (fa fb : M Val) : M Val := M.bind fc fun b => if b = true then fa else fb
theorem de_if (hc : DT X W c fc) (ha : DE X W a fa) (hb : DE X W b fb) : DE X W (.IfExp c a b pos) (dIf fc fa fb) := ⟨PE.weak (pe_ifExp hc.pt ha.pe hb.pe) fun σ H Q h => by
  obtain ⟨S, e, A, g⟩ := h
  refine tDx.step A Ext.refl g fun v e1 H1 S1 w1 A1 E1 _ v1 k => ?_
  cases v1
  cases v with
  | true => rw [if_pos rfl] at k ⊢; exact tD_last A1 E1 k
  | false => rw [if_neg Bool.false_ne_true] at k ⊢; exact tD_last A1 E1 k⟩
end
end DL

set_option maxHeartbeats 4000000
/-! DL4: freezing, displays, arguments, subscripts, slices, fields. -/
namespace DL
open PySem PySem.Spec PyProof.Rows L2
variable [TabsT]

/-- a value made data for good -/
def frz (v : Val) : M D := fun e => match v with
  | .d x => .ok x e
  | .new o => (match o.d with
    | some x => .ok x e
    | none => .bad)
  | .at_ i => (match e[i]? with
    | some (.ow o) => (match o.d with
      | some x => .ok x (e.set i (.sh x))
      | none => .bad)
    | _ => .bad)
section
variable {K : PySem.W.Frag} {W : WX} {σ : St} {H0 S0 H S H' S' : Hp} {e0 e e' : Env}
theorem frz_rep {a : Addr} {o : O} {x : D} {u : HO} (sa : S a = none) (r : ORep K H S a o) (hd : o.d = some x) (hu : H a = some u) : Rep K (upd S a u) x (.ref a) := by
  cases o with
  | lst xs =>
    cases hd
    obtain ⟨vs, h1, h2⟩ := r
    rw [hu] at h1
    cases h1
    exact rep_lst.mpr ⟨a, vs, rfl, upd_same, h2.same (same_upd sa)⟩
  | ins c ns xs =>
    cases hd
    obtain ⟨dx, vs, h1, h2, h3⟩ := r
    rw [hu] at h1
    cases h1
    exact rep_ins.mpr ⟨a, dx, vs, rfl, upd_same, h2, h3.same (same_upd sa)⟩
  | dct b kvs => cases hd
theorem sat_frz {a : Addr} {u : HO} {x : Option (Option V)} (sa : S a = none) {s : SV} (h : SAt K x H S s) (ne : isHad s = true → x ≠ some (some (.ref a))) : SAt K x H (upd S a u) s := by
  cases s with
  | no => exact h
  | sh d =>
    obtain ⟨v, h1, h2⟩ := h
    exact ⟨v, h1, h2.same (same_upd sa)⟩
  | ow o =>
    obtain ⟨b, h1, h2, h3⟩ := h
    have nb : b ≠ a := fun z => ne rfl (by rw [h1, z])
    exact ⟨b, h1, by rw [upd_ne nb]; exact h2, h3.mono (same_upd sa) rfl⟩
  | lk o =>
    obtain ⟨b, h1, h2, h3⟩ := h
    have nb : b ≠ a := fun z => ne rfl (by rw [h1, z])
    exact ⟨b, h1, by rw [upd_ne nb]; exact h2, h3.mono (same_upd sa) rfl⟩
theorem frz_step {α β : Type} {v : Val} {w : V} {At : α → Hp → Hp → Env → β → Prop} {k : D → M α} {Q : β → Hp → Prop} {P : Prop} (A : Abs K σ H S e) (E : Ext σ e0 H0 S0 σ e H S) (h : VAt K σ H0 H S e v w)
    (g : Goal K W σ H0 S0 e0 At (M.bind (frz v) k e) Q)
    (st : ∀ x e' S', frz v e = .ok x e' → Abs K σ H S' e' → Ext σ e0 H0 S0 σ e' H S' → Same S S' → Rep K S' x w → Goal K W σ H0 S0 e0 At (k x e') Q → P) : P := by
  unfold M.bind frz at g
  cases v with
  | d x => exact st x e S rfl A E (Same.refl _) h g
  | new o =>
    simp only at g
    cases q : o.d with
    | none => simp only [q] at g; exact g.elim
    | some x =>
      simp only [q] at g
      obtain ⟨a, rfl, h2, h3, h4, h5⟩ := h
      obtain ⟨u, hu⟩ := h3.there
      refine st x e (upd S a u) (by unfold frz; simp only [q]) ⟨A.len, fun b z hb => ?_, fun i s hs => sat_frz h2 (A.at_ i s hs) fun hh hx => h4 ⟨i, s, hs, hh, hx⟩, A.ap, A.tab, nt_upd A.nt (own_tab h3 hu), A.ot⟩ ⟨E.sm.trans (same_upd h2), fun b z hb nb nt => ?_, E.tr, E.ow, E.hd, E.lk, E.tb⟩ (same_upd h2) (frz_rep h2 h3 q hu) g
      · by_cases hz : b = a
        · subst hz; rw [upd_same] at hb; cases hb; exact hu
        · rw [upd_ne hz] at hb; exact A.sub b z hb
      · obtain ⟨k1, k2⟩ := E.fr b z hb nb nt
        exact ⟨k1, fun m hs => by rw [upd_ne (fun hz => by rw [hz, h5] at hb; cases hb)]; exact k2 m hs⟩
  | at_ i =>
    simp only at g
    cases q : e[i]? with
    | none => simp only [q] at g; exact g.elim
    | some s =>
      cases s with
      | no => simp only [q] at g; exact g.elim
      | sh d => simp only [q] at g; exact g.elim
      | lk o => simp only [q] at g; exact g.elim
      | ow o =>
        simp only [q] at g
        cases q2 : o.d with
        | none => simp only [q2] at g; exact g.elim
        | some x =>
          simp only [q2] at g
          obtain ⟨s, k1, k2, k3⟩ := h
          obtain ⟨a, j1, j2, j3⟩ := A.at_ i _ q
          rw [k3] at j1
          cases j1
          obtain ⟨u, hu⟩ := j3.there
          have hi : i < e.length := (List.getElem?_eq_some_iff.mp q).1
          have own : Own 0 σ e a := ⟨i, _, Nat.zero_le _, q, rfl, k3⟩
          have back : ∀ (j : Nat) (t : SV), (e.set i (.sh x))[j]? = some t → isHad t = true → j ≠ i ∧ e[j]? = some t := fun j t ht hh => by
            by_cases hj : i = j
            · subst hj
              rw [List.getElem?_set_self hi] at ht
              cases ht
              cases hh
            · rw [List.getElem?_set_ne hj] at ht
              exact ⟨Ne.symm hj, ht⟩
          have owf : ∀ t : SV, isOw t = true → isHad t = true := fun t ht => by cases t <;> first | rfl | cases ht
          refine st x (e.set i (.sh x)) (upd S a u) (by unfold frz; simp only [q, q2]) ⟨by rw [List.length_set]; exact A.len, fun b z hb => ?_, fun j t ht => ?_, fun j1 j2 t1 t2 b ht1 ht2 o1 o2 x1 x2 => ?_, A.tab, nt_upd A.nt (own_tab j3 hu), A.ot⟩ ⟨E.sm.trans (same_upd j2), fun b z hb nb nt => ?_, E.tr, fun k b ⟨j, t, hk, ht, o1, hx⟩ => ?_, fun b ⟨j, t, ht, o1, hx⟩ => ?_, fun j t ht hk => ?_, E.tb⟩ (same_upd j2) (frz_rep j2 j3 q2 hu) g
          · by_cases hz : b = a
            · subst hz; rw [upd_same] at hb; cases hb; exact hu
            · rw [upd_ne hz] at hb; exact A.sub b z hb
          · by_cases hj : i = j
            · subst hj
              rw [List.getElem?_set_self hi] at ht
              cases ht
              exact ⟨_, k3, frz_rep j2 j3 q2 hu⟩
            · rw [List.getElem?_set_ne hj] at ht
              exact sat_frz j2 (A.at_ j t ht) fun hh hx => hj (A.ap i j _ t a q ht rfl hh k3 hx)
          · obtain ⟨n1, b1⟩ := back j1 t1 ht1 o1
            obtain ⟨n2, b2⟩ := back j2 t2 ht2 o2
            exact A.ap j1 j2 t1 t2 b b1 b2 o1 o2 x1 x2
          · obtain ⟨k1, k2⟩ := E.fr b z hb nb nt
            refine ⟨k1, fun m hs => ?_⟩
            rw [upd_ne (fun hz => ?_)]
            · exact k2 m hs
            · subst hz
              exact (E.ow 0 b own).elim nb fun z2 => by rw [hb] at z2; cases z2
          · obtain ⟨n1, b1⟩ := back j t ht (owf _ o1)
            exact E.ow k b ⟨j, t, hk, b1, o1, hx⟩
          · obtain ⟨n1, b1⟩ := back j t ht o1
            exact E.hd b ⟨j, t, b1, o1, hx⟩
          · obtain ⟨n1, b1⟩ := back j t ht (by cases t <;> first | rfl | cases hk)
            exact E.lk j t b1 hk
end
abbrev dAt (K : PySem.W.Frag) (σ : St) (H0 : Hp) (x : D) (H S : Hp) (e : Env) (w : V) : Prop := Rep K S x w
abbrev dsAt (K : PySem.W.Frag) (σ : St) (H0 : Hp) (xs : List D) (H S : Hp) (e : Env) (ws : List V) : Prop := RepL K S xs ws
abbrev tDF (K : PySem.W.Frag) (W : WX) (f : M (List D)) : TA := tDx K W (dsAt K) f
structure DF (X : Cx) (W : WX) (es : List Expr) (f : M (List D)) : Prop where
  pa : PA X es (tDF X.K W f)
def fNil : M (List D) := M.ret []
def fCons (f : M Val) (fs : M (List D)) : M (List D) := M.bind f fun v => M.bind (frz v) fun x => M.bind fs fun xs => M.ret (x :: xs)
section
variable {X : Cx} {W : WX} {pos : Pos} {ex : Expr} {es : List Expr} {f : M Val} {fs : M (List D)}
theorem df_nil : DF X W [] fNil := ⟨PA.weak pa_nil fun σ H Q ⟨S, e, A, g⟩ => g H S [] A Ext.refl .nil⟩
theorem df_cons (h : DE X W ex f) (hs : DF X W es fs) (hp : starEach (ex :: es) X.env = (false, eval ex X.env) :: starEach es X.env := by rfl) : DF X W (ex :: es) (fCons f fs) := ⟨PA.weak (pa_cons h.pe hs.pa hp) fun σ H Q ⟨S, e, A, g⟩ => by
  refine tDx.step A Ext.refl g fun v e1 H1 S1 w1 A1 E1 _ v1 g1 => ?_
  refine frz_step A1 E1 v1 g1 fun x e2 S2 _ A2 E2 _ r2 g2 => ?_
  refine tDx.step A2 E2 g2 fun xs e3 H3 S3 ws A3 E3 E3' r3 g3 => ?_
  exact g3 H3 S3 (w1 :: ws) A3 E3 (.cons (r2.same E3'.sm) r3)⟩
def dTup (fs : M (List D)) : M Val := M.bind fs fun xs e => if xs.length ≤ sizeLine then .ok (.d (.tup xs)) e else .bad
def dLst (fs : M (List D)) : M Val := M.bind fs fun xs e => if xs.length ≤ sizeLine then .ok (.new (.lst xs)) e else .bad
theorem de_tup {x1} (h : DF X W es fs) : DE X W (.Tuple es x1 pos) (dTup fs) := ⟨PE.weak (pe_tup h.pa) fun σ H Q ⟨S, e, A, g⟩ => by
  refine tDx.step A Ext.refl g fun xs e1 H1 S1 ws A1 E1 _ r g1 => ?_
  split at g1
  · rename_i hz
    exact ⟨by rw [← r.length]; exact hz, fun p hp => fin_tup A1 E1 r hp g1⟩
  · exact g1.elim⟩
theorem de_lst (h : DF X W es fs) : DE X W (.List es pos) (dLst fs) := ⟨PE.weak (pe_lst h.pa) fun σ H Q ⟨S, e, A, g⟩ => by
  refine tDx.step A Ext.refl g fun xs e1 H1 S1 ws A1 E1 _ r g1 => ?_
  split at g1
  · rename_i hz
    exact ⟨by rw [← r.length]; exact hz, fun p hp => fin_lst A1 E1 r hp g1⟩
  · exact g1.elim⟩

/-! ### arguments: data, or a slot's object -/
def argV (v : Val) : M Val := match v with
  | .at_ i => M.ret (.at_ i)
  | v => M.bind (frz v) fun x => M.ret (.d x)
def aNil : M (List Val) := M.ret []
def aCons (f : M Val) (fs : M (List Val)) : M (List Val) := M.bind f fun v => M.bind (argV v) fun v => M.bind fs fun vs => M.bind (fixV v) fun v => M.ret (v :: vs)
theorem arg_step {α β : Type} {K : PySem.W.Frag} {σ : St} {H0 S0 H S : Hp} {e0 e : Env} {v : Val} {w : V} {At : α → Hp → Hp → Env → β → Prop} {k : Val → M α} {Q : β → Hp → Prop} {P : Prop} (A : Abs K σ H S e) (E : Ext σ e0 H0 S0 σ e H S) (h : VAt K σ H0 H S e v w)
    (g : Goal K W σ H0 S0 e0 At (M.bind (argV v) k e) Q)
    (st : ∀ v' S', argV v e = .ok v' e → Abs K σ H S' e → Ext σ e0 H0 S0 σ e H S' → (∀ H1, VAt K σ H1 H S' e v' w) → Goal K W σ H0 S0 e0 At (k v' e) Q → P) : P := by
  cases v with
  | at_ i => exact st (.at_ i) S rfl A E (fun _ => h) g
  | d x => exact st (.d x) S rfl A E (fun _ => h) g
  | new o =>
    have g2 : Goal K W σ H0 S0 e0 At (M.bind (frz (.new o)) (fun x => k (.d x)) e) Q := by
      unfold argV M.bind at g
      unfold M.bind
      cases q : frz (.new o) e with
      | ok x e' => simp only [q] at g; exact g
      | er x e' => simp only [q] at g; exact g
      | bad => simp only [q] at g; exact g
    unfold M.bind frz at g2
    simp only at g2
    cases q : o.d with
    | none => simp only [q] at g2; exact g2.elim
    | some y =>
      simp only [q] at g2
      obtain ⟨a, rfl, h2, h3, h4, h5⟩ := h
      obtain ⟨u, hu⟩ := h3.there
      refine st (.d y) (upd S a u) (by unfold argV M.bind frz; simp only [q]; rfl) ⟨A.len, fun b z hb => ?_, fun i s hs => sat_frz h2 (A.at_ i s hs) fun hh hx => h4 ⟨i, s, hs, hh, hx⟩, A.ap, A.tab, nt_upd A.nt (own_tab h3 hu), A.ot⟩ ⟨E.sm.trans (same_upd h2), fun b z hb nb nt => ?_, E.tr, E.ow, E.hd, E.lk, E.tb⟩ (fun _ => frz_rep h2 h3 q hu) g2
      · by_cases hz : b = a
        · subst hz; rw [upd_same] at hb; cases hb; exact hu
        · rw [upd_ne hz] at hb; exact A.sub b z hb
      · obtain ⟨k1, k2⟩ := E.fr b z hb nb nt
        exact ⟨k1, fun m hs => by rw [upd_ne (fun hz => by rw [hz, h5] at hb; cases hb)]; exact k2 m hs⟩
theorem da_nil : DA X W [] aNil := ⟨PA.weak pa_nil fun σ H Q ⟨S, e, A, g⟩ => g H S [] A Ext.refl .nil⟩
theorem da_cons {fs : M (List Val)} (h : DE X W ex f) (hs : DA X W es fs) (hp : starEach (ex :: es) X.env = (false, eval ex X.env) :: starEach es X.env := by rfl) : DA X W (ex :: es) (aCons f fs) := ⟨PA.weak (pa_cons h.pe hs.pa hp) fun σ H Q ⟨S, e, A, g⟩ => by
  refine tDx.step A Ext.refl g fun v e1 H1 S1 w1 A1 E1 _ v1 g1 => ?_
  refine arg_step A1 E1 v1 g1 fun v2 S2 _ A2 E2 r2 g2 => ?_
  refine tDx.step A2 E2 g2 fun vs e3 H3 S3 ws A3 E3 E3' r3 g3 => ?_
  refine fix_step (r2 H) E3' A3 g3 fun v4 r4 g4 => ?_
  exact g4 H3 S3 (w1 :: ws) A3 E3 (.cons r4 (paired_map r3 fun a b z => z.base E2.tr))⟩

/-! ### subscripts -/
def ixV (v u : Val) : M Val := fun e => match vwD e v, vwD e u with
  | some a, some (.int i) => (match isSeq a, atI (itsD a) i with
    | true, some x => .ok (.d x) e
    | _, _ => .bad)
  | _, _ => .bad
def rIxA (K : PySem.W.Frag) : R2 := fun x y H Q => rIxL K x y H Q ∨ rIxT K x y H Q
theorem ix_A : IxR X (rIxA X.K) := ix_list.or ix_tup
theorem atI_rep {K : PySem.W.Frag} {H : Hp} {ds : List D} {vs : List V} {i : Int} {d : D} (r : RepL K H ds vs) (h : atI ds i = some d) : ∃ v, atI vs i = some v ∧ Rep K H d v := by
  unfold atI at h ⊢
  rw [← r.length]
  cases q : ixN ds.length i with
  | none => rw [q] at h; cases h
  | some j =>
    rw [q] at h
    obtain ⟨v, h1, h2⟩ := r.get h
    exact ⟨v, h1, h2⟩
theorem ixD {K : PySem.W.Frag} : OpD K ixV (rIxA K) := by
  intro W σ H0 S0 e0 H S e v u w1 w2 Q A E h1 h2 g
  unfold ixV at g
  split at g
  · rename_i a i q1 q2
    split at g
    · rename_i x hs hx
      have hv := h1.view A q1
      cases a with
      | lst xs =>
        obtain ⟨p, vs, rfl, k1, k2⟩ := hv
        obtain ⟨y, k3, k4⟩ := atI_rep k2 hx
        exact .inl ⟨p, vs, i, y, rfl, h2.int A q2, .of k1, k3, fin_d A E k4 g⟩
      | rol xs =>
        obtain ⟨p, vs, rfl, k1, k2⟩ := rep_rol.mp (show Rep K S (.rol xs) w1 from hv)
        obtain ⟨y, k3, k4⟩ := atI_rep k2 hx
        exact .inl ⟨p, vs, i, y, rfl, h2.int A q2, sqL_same A.sub k1, k3, fin_d A E k4 g⟩
      | tup xs =>
        obtain ⟨p, vs, rfl, k1, k2⟩ := rep_tupQ (show Rep K S (.tup xs) w1 from hv)
        obtain ⟨y, k3, k4⟩ := atI_rep k2 hx
        exact .inr ⟨p, vs, i, y, rfl, h2.int A q2, sqT_same A.sub k1, k3, fin_d A E k4 g⟩
      | _ => cases hs
    · exact g.elim
  · exact g.elim
theorem de_ix {a b : Expr} {fa fb : M Val} (ha : DE X W a fa) (hb : DE X W b fb) (hs : PlainIx b) : DE X W (.Subscript a b pos) (dBin ixV fa fb) :=
  ⟨PE.weak (pe_ix ix_A ha.pe hb.pe hs) fun _ _ _ h => bin_le ixD h⟩
/-- parts of a slice -/
abbrev oAt (σ : St) (H0 : Hp) (b : Option Int) (H S : Hp) (e : Env) (c : Option Int) : Prop := c = b
structure DO (X : Cx) (W : WX) (ex : Option Expr) (f : M (Option Int)) : Prop where
  po : PO X ex (tDx X.K W oAt f)
theorem PO.weak {ex : Option Expr} {t t' : TO} (h : PO X ex t) (k : ∀ σ H Q, t' σ H Q → t σ H Q) : PO X ex t' := ⟨fun pins s σ H Q I q => h.run pins s σ H Q I (k σ H Q q)⟩
def pNone : M (Option Int) := M.ret none
def pSome (f : M Val) : M (Option Int) := M.bind f fun v e => match vwD e v with
  | some (.int i) => .ok (some i) e
  | _ => .bad
theorem do_none : DO X W none pNone := ⟨PO.weak po_none fun σ H Q ⟨S, e, A, g⟩ => g H S none A Ext.refl rfl⟩
theorem do_some (h : DE X W ex f) : DO X W (some ex) (pSome f) := ⟨PO.weak (po_some h.pe) fun σ H Q ⟨S, e, A, g⟩ => by
  refine tDx.step A Ext.refl g fun v e1 H1 S1 w1 A1 E1 _ v1 g1 => ?_
  split at g1
  · rename_i i q
    exact ⟨i, v1.int A1 q, g1 H1 S1 (some i) A1 E1 rfl⟩
  · exact g1.elim⟩
def cutD (xs : List D) (lo hi : Option Int) : List D := (xs.drop (HT.sIx xs.length 0 lo)).take (HT.sIx xs.length xs.length hi - HT.sIx xs.length 0 lo)
def slV (v : Val) (lo hi : Option Int) : M Val := fun e => match vwD e v with
  | some (.lst xs) => .ok (.new (.lst (cutD xs lo hi))) e
  | some (.rol xs) => .ok (.new (.lst (cutD xs lo hi))) e
  | some (.tup xs) => .ok (.d (.tup (cutD xs lo hi))) e
  | _ => .bad
def dSl (f : M Val) (lo hi : M (Option Int)) : M Val := M.bind f fun v => M.bind lo fun l => M.bind hi fun h => M.bind (fixV v) fun v => slV v l h
theorem cut_rep {K : PySem.W.Frag} {H : Hp} {ds : List D} {vs : List V} {lo hi : Option Int} (r : RepL K H ds vs) : RepL K H (cutD ds lo hi) (cutV vs lo hi) := by
  unfold cutD cutV
  rw [r.length]
  exact (r.drop _).take _
def rSlAA (K : PySem.W.Frag) : V → Option Int → Option Int → Hp → VK → Prop := fun x lo hi H Q => rSlL K x lo hi H Q ∨ rSlA K x lo hi H Q
theorem cut_whole {ds : List D} {lo hi : Option Int} (h : HT.sIx ds.length 0 lo = 0 ∧ HT.sIx ds.length ds.length hi = ds.length) : cutD ds lo hi = ds := by
  unfold cutD
  rw [h.1, h.2, Nat.sub_zero, List.drop_zero, List.take_length]
theorem de_sl {a : Expr} {fa : M Val} {lo hi : Option Expr} {fl fh : M (Option Int)} {p2 : Pos} (ha : DE X W a fa) (hl : DO X W lo fl) (hh : DO X W hi fh) : DE X W (.Subscript a (.Slice lo hi none p2) pos) (dSl fa fl fh) :=
  ⟨PE.weak (pe_slice (sl_list.or sl_tupA) ha.pe hl.po hh.po) fun σ H Q ⟨S, e, A, g⟩ => by
    refine tDx.step A Ext.refl g fun v e1 H1 S1 w1 A1 E1 _ v1 g1 => ?_
    refine tDx.step A1 E1 g1 fun l e2 H2 S2 w2 A2 E2 E2' v2 g2 => ?_
    refine tDx.step A2 E2 g2 fun h e3 H3 S3 w3 A3 E3 E3' v3 g3 => ?_
    refine fix_step v1 (E2'.trans E3') A3 g3 fun v' v1' g4 => ?_
    cases v2
    cases v3
    unfold slV at g4
    split at g4
    · rename_i xs q
      obtain ⟨p, vs, rfl, k1, k2⟩ := v1'.view A3 q
      exact .inl ⟨p, vs, rfl, .of k1, fun p hp => fin_lst A3 E3 (cut_rep k2) hp g4⟩
    · rename_i xs q
      obtain ⟨p, vs, rfl, k1, k2⟩ := rep_rol.mp (show Rep X.K S3 (.rol xs) w1 from v1'.view A3 q)
      exact .inl ⟨p, vs, rfl, sqL_same A3.sub k1, fun p hp => fin_lst A3 E3 (cut_rep k2) hp g4⟩
    · rename_i xs q
      have r : Rep X.K S3 (.tup xs) w1 := v1'.view A3 q
      obtain ⟨p, vs, rfl, k1, k2⟩ := rep_tupQ r
      refine .inr ⟨p, vs, rfl, sqT_same A3.sub k1, fun z => ?_, fun _ p hp => fin_tup A3 E3 (cut_rep k2) hp g4⟩
      rw [← k2.length] at z
      rw [cut_whole z] at g4
      exact fin_d A3 E3 r g4
    · exact g4.elim⟩

/-! ### fields -/
def fldOf (cs : List Str) (f : Str) : D → Option D
  | .ins c ns xs => if c ∈ cs then (ns.zip xs).lookup f else none
  | _ => none
def fldV (cs : List Str) (f : Str) (v : Val) : M Val := fun e => match (vwD e v).bind (fldOf cs f) with
  | some x => .ok (.d x) e
  | none => .bad
theorem lookup_rep {K : PySem.W.Frag} {H : Hp} {f : Str} {x : D} : ∀ {ns : List Str} {ds : List D} {vs : List V}, RepL K H ds vs → (ns.zip ds).lookup f = some x → ∃ v, (ns.zip vs).lookup f = some v ∧ Rep K H x v
  | [], _, _, _, h => by simp at h
  | n :: ns, [], vs, r, h => by simp at h
  | n :: ns, d :: ds, vs, r, h => by
    obtain ⟨v, us, rfl, r1, r2⟩ := repL_cons.mp r
    rw [List.zip_cons_cons, List.lookup_cons] at h ⊢
    cases q : f == n with
    | true =>
      rw [q] at h
      cases h
      exact ⟨v, rfl, r1⟩
    | false =>
      rw [q] at h
      exact lookup_rep r2 h
theorem de_fld {a : Expr} {fa : M Val} {cs : List Str} {f : Str} (ha : DE X W a fa) (hc : ∀ c ∈ cs, Cls X.K (He.ga X.K c) ∧ NoAttr X.K (He.ga X.K c) f) (hb : attributeBase a f X.env (eval a X.env) = eval a X.env := by rfl) : DE X W (.Attribute a f pos) (dUn (fldV cs f) fa) :=
  ⟨PE.weak (pe_fld ha.pe hb) fun σ H Q ⟨S, e, A, g⟩ => by
    refine tDx.step A Ext.refl g fun v e1 H1 S1 w1 A1 E1 _ v1 g1 => ?_
    unfold fldV at g1
    split at g1
    · rename_i x q
      cases q2 : vwD e1 v with
      | none => rw [q2] at q; cases q
      | some y =>
        rw [q2] at q
        cases y with
        | ins c ns xs =>
          have q : (if c ∈ cs then (ns.zip xs).lookup f else none) = some x := q
          by_cases hm : c ∈ cs
          · rw [if_pos hm] at q
            obtain ⟨p, dx, vs, rfl, k1, k2, k3⟩ := v1.view A1 q2
            obtain ⟨z, k4, k5⟩ := lookup_rep k3 q
            exact ⟨p, _, dx, _, z, rfl, k1, (hc c hm).1, (hc c hm).2, k4, fin_d A1 E1 k5 g1⟩
          · rw [if_neg hm] at q; cases q
        | _ => cases q
    · exact g1.elim⟩
end
end DL

set_option maxHeartbeats 4000000
/-! DL5: calls of built-ins, methods of lists. -/
namespace DL
open PySem PySem.Spec PyProof.Rows L2
variable [TabsT]

def CallD (K : PySem.W.Frag) (op : List Val → M Val) (r : List V → Hp → VK → Prop) : Prop :=
  ∀ (W : WX) (σ : St) (H0 S0 : Hp) (e0 : Env) (H S : Hp) (e : Env) (vs : List Val) (ws : List V) (Q : VK), Abs K σ H S e → Ext σ e0 H0 S0 σ e H S → VsAt K σ H0 H S e vs ws →
    Goal K W σ H0 S0 e0 (vAt K σ H0) (op vs e) Q → r ws H Q
def dCall (op : List Val → M Val) (fs : M (List Val)) : M Val := M.bind fs op
section
variable {X : Cx} {W : WX} {pos p : Pos} {ex : Expr} {es : List Expr} {f : M Val} {fs : M (List Val)} {op : List Val → M Val} {r : List V → Hp → VK → Prop} {x : Str}
theorem call_le {K : PySem.W.Frag} (hd : CallD K op r) {σ : St} {H : Hp} {Q : VK} (h : tD K W (dCall op fs) σ H Q) : tCB r (tDA K W fs) σ H Q := by
  obtain ⟨S, e, A, g⟩ := h
  exact tDx.step A Ext.refl g fun vs e1 H1 S1 ws A1 E1 _ v1 g1 => hd W σ H S e H1 S1 e1 vs ws Q A1 E1 v1 g1
theorem de_callB {id : String} (hc : CallR X (.builtin id) r) (hd : CallD X.K op r) (hg : Gl X x) (hm : X.mg x = none) (hv : bootBuiltins x = some (.builtin id)) (ha : DA X W (ex :: es) fs) (hn : x ≠ "__name__" := by decide) (hdb : (x == ("__debug__" : Str)) = false := by decide)
    (he : starEach (ex :: es) X.env = (false, eval ex X.env) :: starEach es X.env := by rfl) (hpl : (backTo pos (starEach es X.env)).any (·.1) = false := by rfl) : DE X W (.Call (.Name x p) (ex :: es) [] pos) (dCall op fs) :=
  ⟨PE.weak (pe_callB hc hg hm hv ha.pa hn hdb he hpl) fun _ _ _ h => call_le hd h⟩
theorem de_callTy {T : String} (hc : CallR X (.type T) r) (hd : CallD X.K op r) (hg : Gl X x) (hm : X.mg x = none) (hv : bootBuiltins x = some (.type T)) (ha : DA X W (ex :: es) fs) (hn : x ≠ "__name__" := by decide) (hdb : (x == ("__debug__" : Str)) = false := by decide)
    (he : starEach (ex :: es) X.env = (false, eval ex X.env) :: starEach es X.env := by rfl) (hpl : (backTo pos (starEach es X.env)).any (·.1) = false := by rfl) : DE X W (.Call (.Name x p) (ex :: es) [] pos) (dCall op fs) :=
  ⟨PE.weak (pe_callTy hc hg hm hv ha.pa hn hdb he hpl) fun _ _ _ h => call_le hd h⟩
theorem de_bltn {n : String} (hg : Gl X x) (hm : X.mg x = none) (hv : bootBuiltins x = some (.type n)) (hn : x ≠ "__name__" := by decide) (hd : (x == ("__debug__" : Str)) = false := by decide) : DE X W (.Name x p) (dC (.ty n)) :=
  de_c (pe_bltn (v := .ty n) hg hm hv rfl hn hd) fun _ => rep_ty.mpr rfl
end
section
variable {K : PySem.W.Frag}
theorem vs1 {σ : St} {H0 H S : Hp} {e : Env} {v : Val} {ws : List V} (h : VsAt K σ H0 H S e [v] ws) : ∃ w, ws = [w] ∧ VAt K σ H0 H S e v w := by
  cases h with
  | cons a b => cases b; exact ⟨_, rfl, a⟩
theorem vs2 {σ : St} {H0 H S : Hp} {e : Env} {v u : Val} {ws : List V} (h : VsAt K σ H0 H S e [v, u] ws) : ∃ w y, ws = [w, y] ∧ VAt K σ H0 H S e v w ∧ VAt K σ H0 H S e u y := by
  cases h with
  | cons a b =>
    cases b with
    | cons c d => cases d; exact ⟨_, _, rfl, a, c⟩
/-- of one argument, a function of its data -/
def fn1 (f : D → Option D) (vs : List Val) : M Val := fun e => match vs with
  | [v] => (match (vwD e v).bind f with
    | some x => .ok (.d x) e
    | none => .bad)
  | _ => .bad
theorem fn1D {f : D → Option D} {r : List V → Hp → VK → Prop} (hr : ∀ (H S : Hp) (Q : VK) (d x : D) (w : V), Same S H → f d = some x → VRep K H S d w → (∀ y, Rep K S x y → Q y H) → r [w] H Q) : CallD K (fn1 f) r := by
  intro W σ H0 S0 e0 H S e vs ws Q A E h g
  unfold fn1 at g
  split at g
  · rename_i v
    obtain ⟨w, rfl, h1⟩ := vs1 h
    split at g
    · rename_i x q
      cases q2 : vwD e v with
      | none => rw [q2] at q; cases q
      | some d =>
        rw [q2] at q
        exact hr H S Q d x w A.sub q (h1.view A q2) fun y hy => fin_d A E hy g
    · exact g.elim
  · exact g.elim
def lenF : D → Option D
  | .lst xs => some (.int (xs.length : Nat))
  | .rol xs => some (.int (xs.length : Nat))
  | .tup xs => some (.int (xs.length : Nat))
  | .str x => if x.length ≤ sizeLine then some (.int (x.length : Nat)) else none
  | _ => none
def rLenD (K : PySem.W.Frag) : List V → Hp → VK → Prop := fun xs H Q => ∃ x n, xs = [x] ∧ LenV K x H n ∧ Q (.int n) H
theorem lenD : CallD K (fn1 lenF) (rLenD K) := fn1D fun H S Q d x w sub hf hv k => by
  cases d with
  | lst xs =>
    cases hf
    obtain ⟨a, vs, rfl, k1, k2⟩ := hv
    exact ⟨.ref a, vs.length, rfl, .inl ⟨vs, .of k1, rfl⟩, by rw [← k2.length]; exact k _ (rep_int.mpr rfl)⟩
  | rol xs =>
    cases hf
    obtain ⟨a, vs, rfl, k1, k2⟩ := rep_rol.mp (show Rep K S (.rol xs) w from hv)
    exact ⟨.ref a, vs.length, rfl, .inl ⟨vs, sqL_same sub k1, rfl⟩, by rw [← k2.length]; exact k _ (rep_int.mpr rfl)⟩
  | tup xs =>
    cases hf
    obtain ⟨a, vs, rfl, k1, k2⟩ := rep_tupQ (show Rep K S (.tup xs) w from hv)
    exact ⟨.ref a, vs.length, rfl, .inr ⟨vs, sqT_same sub k1, rfl⟩, by rw [← k2.length]; exact k _ (rep_int.mpr rfl)⟩
  | str z =>
    have hf : (if z.length ≤ sizeLine then some (D.int (z.length : Nat)) else none) = some x := hf
    by_cases hz : z.length ≤ sizeLine
    · rw [if_pos hz] at hf
      cases hf
      obtain rfl := rep_str.mp (show Rep K S (.str z) w from hv)
      exact ⟨.str z, z.length, rfl, ⟨hz, rfl⟩, k _ (rep_int.mpr rfl)⟩
    · rw [if_neg hz] at hf; cases hf
  | _ => cases hf
def intF : D → Option D
  | .int i => some (.int i)
  | .bl b => some (.int (if b then 1 else 0))
  | _ => none
theorem intCD : CallD K (fn1 intF) (fun xs H Q => (∃ i, xs = [.int i] ∧ Q (.int i) H) ∨ ∃ k, xs = [.bl k] ∧ Q (.int (if k then 1 else 0)) H) := fn1D fun H S Q d x w sub hf hv k => by
  cases d with
  | int i =>
    cases hf
    obtain rfl := rep_int.mp (show Rep K S (.int i) w from hv)
    exact .inl ⟨i, rfl, k _ (rep_int.mpr rfl)⟩
  | bl b =>
    cases hf
    obtain rfl := rep_bl.mp (show Rep K S (.bl b) w from hv)
    exact .inr ⟨b, rfl, k _ (rep_int.mpr rfl)⟩
  | _ => cases hf
def absF : D → Option D
  | .int i => some (.int (if i < 0 then -i else i))
  | _ => none
theorem absD : CallD K (fn1 absF) (fun xs H Q => ∃ i, xs = [.int i] ∧ Q (.int (if i < 0 then -i else i)) H) := fn1D fun H S Q d x w sub hf hv k => by
  cases d with
  | int i =>
    cases hf
    obtain rfl := rep_int.mp (show Rep K S (.int i) w from hv)
    exact ⟨i, rfl, k _ (rep_int.mpr rfl)⟩
  | _ => cases hf
/-- truth values, numbers in a list -/
def blsOf : List D → Option (List Bool)
  | [] => some []
  | .bl b :: r => (blsOf r).map (b :: ·)
  | _ :: _ => none
def intsOf : List D → Option (List Int)
  | [] => some []
  | .int b :: r => (intsOf r).map (b :: ·)
  | _ :: _ => none
theorem bls_rep {H : Hp} : ∀ {ds : List D} {bs : List Bool} {vs : List V}, blsOf ds = some bs → RepL K H ds vs → vs = bs.map V.bl
  | [], bs, vs, h, r => by cases h; rw [repL_nil] at r; exact r
  | d :: ds, bs, vs, h, r => by
    obtain ⟨v, us, rfl, r1, r2⟩ := repL_cons.mp r
    cases d with
    | bl b =>
      have h : (blsOf ds).map (b :: ·) = some bs := h
      cases q : blsOf ds with
      | none => rw [q] at h; cases h
      | some cs =>
        rw [q] at h
        cases h
        rw [rep_bl.mp r1, bls_rep q r2]
        rfl
    | _ => cases h
def allF : D → Option D
  | .lst xs => (blsOf xs).map fun bs => .bl (bs.all id)
  | _ => none
def anyF : D → Option D
  | .lst xs => (blsOf xs).map fun bs => .bl (bs.any id)
  | _ => none
def sumF : D → Option D
  | .lst xs => (intsOf xs).map fun bs => .int bs.sum
  | _ => none
theorem allD : CallD K (fn1 allF) (rAll K) := fn1D fun H S Q d x w sub hf hv k => by
  cases d with
  | lst xs =>
    have hf : ((blsOf xs).map fun bs => D.bl (bs.all id)) = some x := hf
    cases q : blsOf xs with
    | none => rw [q] at hf; cases hf
    | some bs =>
      rw [q] at hf
      cases hf
      obtain ⟨a, vs, rfl, k1, k2⟩ := hv
      rw [bls_rep q k2] at k1
      exact ⟨a, bs, rfl, .of k1, k _ (rep_bl.mpr rfl)⟩
  | _ => cases hf
/-- list(..), tuple(..) of what has items -/
def listC (vs : List Val) : M Val := fun e => match vs with
  | [v] => (match vwD e v with
    | some a => if isSeq a = true then .ok (.new (.lst (itsD a))) e else .bad
    | none => .bad)
  | _ => .bad
def tupC (vs : List Val) : M Val := fun e => match vs with
  | [v] => (match vwD e v with
    | some a => if isSeq a = true then .ok (.d (.tup (itsD a))) e else .bad
    | none => .bad)
  | _ => .bad
theorem seq_rep {H S : Hp} {d : D} {w : V} (sub : Same S H) (hs : isSeq d = true) (hv : VRep K H S d w) : ∃ a vs, w = .ref a ∧ (SqL K H a vs ∨ SqT K H a vs) ∧ RepL K S (itsD d) vs := by
  cases d with
  | lst xs => obtain ⟨a, vs, rfl, k1, k2⟩ := hv; exact ⟨a, vs, rfl, .inl (.of k1), k2⟩
  | rol xs => obtain ⟨a, vs, rfl, k1, k2⟩ := rep_rol.mp (show Rep K S (.rol xs) w from hv); exact ⟨a, vs, rfl, .inl (sqL_same sub k1), k2⟩
  | tup xs => obtain ⟨a, vs, rfl, k1, k2⟩ := rep_tupQ (show Rep K S (.tup xs) w from hv); exact ⟨a, vs, rfl, .inr (sqT_same sub k1), k2⟩
  | _ => cases hs
theorem listD : CallD K listC (fun xs H Q => ∃ p ys, xs = [.ref p] ∧ (SqL K H p ys ∨ SqT K H p ys) ∧ ∀ l, H l = none → Q (.ref l) (upd H l (.lst ys))) := by
  intro W σ H0 S0 e0 H S e vs ws Q A E h g
  unfold listC at g
  split at g
  · rename_i v
    obtain ⟨w, rfl, h1⟩ := vs1 h
    split at g
    · rename_i a q
      split at g
      · rename_i hs
        obtain ⟨p, us, rfl, k1, k2⟩ := seq_rep A.sub hs (h1.view A q)
        exact ⟨p, us, rfl, k1, fun l hl => fin_lst A E k2 hl g⟩
      · exact g.elim
    · exact g.elim
  · exact g.elim
theorem tupD : CallD K tupC (fun xs H Q => ∃ p ys, xs = [.ref p] ∧ ((SqL K H p ys ∧ ∀ l, H l = none → Q (.ref l) (upd H l (.tup ys))) ∨ (SqT K H p ys ∧ Q (.ref p) H))) := by
  intro W σ H0 S0 e0 H S e vs ws Q A E h g
  unfold tupC at g
  split at g
  · rename_i v
    obtain ⟨w, rfl, h1⟩ := vs1 h
    split at g
    · rename_i a q
      split at g
      · rename_i hs
        have hv := h1.view A q
        cases a with
        | lst xs => obtain ⟨p, us, rfl, k1, k2⟩ := hv; exact ⟨p, us, rfl, .inl ⟨.of k1, fun l hl => fin_tup A E k2 hl g⟩⟩
        | rol xs => obtain ⟨p, us, rfl, k1, k2⟩ := rep_rol.mp (show Rep K S (.rol xs) w from hv); exact ⟨p, us, rfl, .inl ⟨sqL_same A.sub k1, fun l hl => fin_tup A E k2 hl g⟩⟩
        | tup xs =>
          have r : Rep K S (.tup xs) w := hv
          obtain ⟨p, us, rfl, k1, k2⟩ := rep_tupQ r
          exact ⟨p, us, rfl, .inr ⟨sqT_same A.sub k1, fin_d A E r g⟩⟩
        | _ => cases hs
      · exact g.elim
    · exact g.elim
  · exact g.elim
/-- isinstance -/
def tyNm : D → Option String
  | .non => some "NoneType"
  | .bl _ => some "bool"
  | .int _ => some "int"
  | .str _ => some "str"
  | .lst _ => some "list"
  | .tup _ => some "tuple"
  | _ => none
def isC (vs : List Val) : M Val := fun e => match vs with
  | [v, .d (.ty n)] => (match ((vwD e v).bind tyNm).bind (fun t => kitB t n) with
    | some b => .ok (.d (.bl b)) e
    | none => .bad)
  | _ => .bad
theorem tyNm_rep {H : Hp} {d : D} {w : V} {t : String} (h : Rep K H d w) (ht : tyNm d = some t) : TyX K H w (.type t) := by
  cases d with
  | non => cases ht; rw [rep_non.mp h]; exact .base .non
  | bl b => cases ht; rw [rep_bl.mp h]; exact .base (.bl b)
  | int b => cases ht; rw [rep_int.mp h]; exact .base (.int b)
  | str b => cases ht; rw [rep_str.mp h]; exact .base (.str b)
  | lst xs => cases ht; obtain ⟨a, vs, rfl, k1, _⟩ := rep_lst.mp h; exact .base (.lst k1)
  | tup xs =>
    cases ht
    obtain ⟨a, vs, rfl, k1, _⟩ := rep_tupQ h
    rcases k1 with (k1 | ⟨o, k1⟩) | ⟨o, its, n, k1, k2, _⟩
    · exact .base (.tup k1)
    · exact .fTuple k1
    · exact .kTuple k1 k2
  | _ => cases ht
theorem isCD : CallD K isC (rIsi K) := by
  intro W σ H0 S0 e0 H S e vs ws Q A E h g
  unfold isC at g
  split at g
  · rename_i v n
    obtain ⟨w, y, rfl, h1, h2⟩ := vs2 h
    obtain rfl := rep_ty.mp (show Rep K S (.ty n) y from h2)
    split at g
    · rename_i b q
      cases q1 : (vwD e v).bind tyNm with
      | none => rw [q1] at q; cases q
      | some t =>
        rw [q1] at q
        cases q2 : vwD e v with
        | none => rw [q2] at q1; cases q1
        | some d =>
          rw [q2] at q1
          exact ⟨w, .ty n, .type t, .type n, b, rfl, .ty n, tyNm_rep ((h1.view A q2).rep A.sub) q1, kit_ty q, fin_d A E (rep_bl.mpr rfl) g⟩
    · exact g.elim
  · exact g.elim
/-- isinstance(x, (T, ..)) -/
def anyKit (t : String) : List String → Option Bool
  | [] => some false
  | n :: ns => (kitB t n).bind fun b => if b = true then some true else anyKit t ns
theorem anyKit_ok {t : String} : ∀ {ns : List String} {b : Bool}, anyKit t ns = some b → PySem.W.kitAny K (.type t) (ns.map Value.type) = some b
  | [], b, h => by cases h; exact kitAny_nil
  | n :: ns, b, h => by
    have h : ((kitB t n).bind fun b => if b = true then some true else anyKit t ns) = some b := h
    cases q : kitB t n with
    | none => rw [q] at h; cases h
    | some z =>
      rw [q] at h
      cases z with
      | true =>
        cases h
        exact kitAny_cons (b := true) (kit_ty q) (fun z => by cases z) fun _ => rfl
      | false =>
        have h : anyKit t ns = some b := h
        exact kitAny_cons (b := false) (kit_ty q) (fun _ => anyKit_ok h) fun z => by cases z
def isT (ns : List String) (v : Val) : M Val := fun e => match ((vwD e v).bind tyNm).bind (fun t => anyKit t ns) with
  | some b => .ok (.d (.bl b)) e
  | none => .bad
end
section
variable {X : Cx} {W : WX} {pos p p2 : Pos} {ex : Expr} {es : List Expr} {f : M Val} {fs : M (List Val)}
theorem cls_all : ∀ ns : List String, Paired ClsV (ns.map V.ty) (ns.map Value.type)
  | [] => .nil
  | n :: ns => .cons (.ty n) (cls_all ns)
theorem de_isT {tys : List Expr} {ns : List String} {x1} (hg : Gl X "isinstance") (hm : X.mg "isinstance" = none) (h : DE X W ex f) (ht : PA X tys (fun _ H Q => Q (ns.map V.ty) H)) (hl : ns.length ≤ sizeLine := by decide)
    (hp : starEach [ex, .Tuple tys x1 p2] X.env = (false, eval ex X.env) :: starEach [.Tuple tys x1 p2] X.env := by rfl) (hp2 : starEach [.Tuple tys x1 p2] X.env = (false, eval (.Tuple tys x1 p2) X.env) :: starEach [] X.env := by rfl)
    (hpl : (backTo pos (starEach [.Tuple tys x1 p2] X.env)).any (·.1) = false := by rfl) : DE X W (.Call (.Name "isinstance" p) [ex, .Tuple tys x1 p2] [] pos) (dUn (isT ns) f) :=
  ⟨PE.weak (pe_callB call_isiT hg hm (by decide +kernel) (pa_cons h.pe (pa_cons (pe_tup ht) pa_nil hp2) hp) (by decide) (by decide) hp hpl) fun σ H Q ⟨S, e, A, g⟩ => by
    refine tDx.step A Ext.refl g fun v e1 H1 S1 w1 A1 E1 _ v1 g1 => ?_
    refine ⟨by rw [List.length_map]; exact hl, fun tp htp => ?_⟩
    have A2 : Abs X.K σ (upd H1 tp (.tup (ns.map V.ty))) S1 e1 := abs_new A1 htp
    have E2 : Ext σ e H S σ e1 (upd H1 tp (.tup (ns.map V.ty))) S1 := E1.trans (ext_new htp)
    unfold isT at g1
    split at g1
    · rename_i b q
      cases q1 : (vwD e1 v).bind tyNm with
      | none => rw [q1] at q; cases q
      | some t =>
        rw [q1] at q
        cases q2 : vwD e1 v with
        | none => rw [q2] at q1; cases q1
        | some d =>
          rw [q2] at q1
          refine ⟨w1, tp, ns.map V.ty, .type t, ns.map Value.type, b, rfl, upd_same, cls_all ns, ?_, anyKit_ok q, fin_d A2 E2 (rep_bl.mpr rfl) g1⟩
          exact tyNm_rep (Rep.same (same_upd htp) ((v1.view A1 q2).rep A1.sub)) q1
    · exact g1.elim⟩
theorem pa_ty0 : PA X [] (fun _ H Q => Q (([] : List String).map V.ty) H) := pa_nil
theorem pa_tyc {x : Str} {n : String} {ns : List String} (hg : Gl X x) (hm : X.mg x = none) (hv : bootBuiltins x = some (.type n)) (h : PA X es (fun _ H Q => Q (ns.map V.ty) H)) (hn : x ≠ "__name__" := by decide) (hd : (x == ("__debug__" : Str)) = false := by decide)
    (hs : starEach (.Name x p :: es) X.env = (false, eval (.Name x p) X.env) :: starEach es X.env := by rfl) : PA X (.Name x p :: es) (fun _ H Q => Q ((n :: ns).map V.ty) H) := pa_cons (pe_bltn (v := .ty n) hg hm hv rfl hn hd) h hs

/-! ### methods -/
theorem own_write {K : PySem.W.Frag} {σ : St} {H S : Hp} {e : Env} {i : Nat} {a : Addr} {o o' : O} {u : HO} (A : Abs K σ H S e) (hi : e[i]? = some (.ow o)) (hx : σ[i]? = some (some (V.ref a))) (r : ORep K (upd H a u) S a o') :
    Abs K σ (upd H a u) S (e.set i (.ow o')) ∧ Ext σ e H S σ (e.set i (.ow o')) (upd H a u) S := by
  have hl : i < e.length := (List.getElem?_eq_some_iff.mp hi).1
  have sa : S a = none := by
    obtain ⟨b, h1, h2, _⟩ := A.at_ i _ hi
    rw [hx] at h1
    cases h1
    exact h2
  have own : Own 0 σ e a := ⟨i, _, Nat.zero_le _, hi, rfl, hx⟩
  have back : ∀ (j : Nat) (t : SV), (e.set i (.ow o'))[j]? = some t → ∃ t', e[j]? = some t' ∧ isOw t' = isOw t ∧ isHad t' = isHad t := fun j t ht => by
    by_cases hj : i = j
    · subst hj
      rw [List.getElem?_set_self hl] at ht
      cases ht
      exact ⟨_, hi, rfl, rfl⟩
    · rw [List.getElem?_set_ne hj] at ht
      exact ⟨t, ht, rfl, rfl⟩
  refine ⟨⟨by rw [List.length_set]; exact A.len, fun b z hb => ?_, fun j t ht => ?_, fun j1 j2 t1 t2 b h1 h2 o1 o2 x1 x2 => ?_, ?_, A.nt, ot_upd A.ot (own_tab r upd_same)⟩, ⟨Same.refl _, fun b z hb nb nt => ?_, fun b hb => ?_, fun k b ⟨j, t, hk, ht, o1, hx⟩ => ?_, fun b ⟨j, t, ht, o1, hx⟩ => ?_, fun j t ht hk => ?_, fun t => ?_⟩⟩
  · rw [upd_ne (fun q => by rw [q, sa] at hb; cases hb)]
    exact A.sub b z hb
  · by_cases hj : i = j
    · subst hj
      rw [List.getElem?_set_self hl] at ht
      cases ht
      exact ⟨a, hx, sa, r⟩
    · rw [List.getElem?_set_ne hj] at ht
      have k := A.at_ j t ht
      cases t with
      | no => exact k
      | sh d => exact k
      | ow q =>
        obtain ⟨b, h1, h2, h3⟩ := k
        have nb : b ≠ a := fun z => hj (A.ap i j _ _ a hi ht rfl rfl hx (by rw [h1, z]))
        exact ⟨b, h1, h2, h3.mono (Same.refl _) (upd_ne nb)⟩
      | lk q =>
        obtain ⟨b, h1, h2, h3⟩ := k
        have nb : b ≠ a := fun z => hj (A.ap i j _ _ a hi ht rfl rfl hx (by rw [h1, z]))
        exact ⟨b, h1, h2, h3.mono (Same.refl _) (upd_ne nb)⟩
  · obtain ⟨t1', b1, _, c1⟩ := back j1 t1 h1
    obtain ⟨t2', b2, _, c2⟩ := back j2 t2 h2
    exact A.ap j1 j2 t1' t2' b b1 b2 (c1.trans o1) (c2.trans o2) x1 x2
  · obtain ⟨b, h1, _, h3⟩ := A.at_ i _ hi
    rw [hx] at h1
    cases h1
    obtain ⟨u', hu, hm, hx2⟩ := h3.thereX
    exact tabs_wr hu (mut_tab hm) hx2 A.tab
  · have nb' : b ≠ a := fun q => nb (by rw [q]; exact own)
    exact ⟨by rw [upd_ne nb']; exact hb, fun _ => id⟩
  · by_cases q : b = a
    · rw [q, upd_same] at hb; cases hb
    · rw [upd_ne q] at hb; exact hb
  · obtain ⟨t', b1, c1, _⟩ := back j t ht
    exact .inl ⟨j, t', hk, b1, c1.trans o1, hx⟩
  · obtain ⟨t', b1, _, c1⟩ := back j t ht
    exact .inl ⟨j, t', b1, c1.trans o1, hx⟩
  · by_cases hj : i = j
    · subst hj
      rw [List.getElem?_set_self hl] at ht
      cases ht
      cases hk
    · rw [List.getElem?_set_ne hj] at ht
      exact ⟨⟨t, ht, hk⟩, rfl⟩
  · obtain ⟨b, h1, _, h3⟩ := A.at_ i _ hi
    rw [hx] at h1
    cases h1
    obtain ⟨u', hu, hm, hx2⟩ := h3.thereX
    exact tabs_wr hu (mut_tab hm) hx2 t
def isLstB (e : Env) (v : Val) : Bool := match vwD e v with
  | some (.lst _) => true
  | _ => false
/-- a method of a list: the receiver, the arguments -/
def dMeth (op : Val → List D → M Val) (f : M Val) (fs : M (List D)) : M Val := M.bind f fun v => M.bind (fun e => if isLstB e v = true then .ok () e else .bad) fun _ => M.bind fs fun vs => M.bind (fixV v) fun v => op v vs
def MethD (K : PySem.W.Frag) (op : Val → List D → M Val) (r : V → List V → Hp → VK → Prop) : Prop :=
  ∀ (W : WX) (σ : St) (H0 S0 : Hp) (e0 : Env) (H S : Hp) (e : Env) (v : Val) (w : V) (ds : List D) (ws : List V) (Q : VK), Abs K σ H S e → Ext σ e0 H0 S0 σ e H S → VAt K σ H0 H S e v w → RepL K S ds ws →
    Goal K W σ H0 S0 e0 (vAt K σ H0) (op v ds e) Q → r w ws H Q
theorem unit_step {α β : Type} {K : PySem.W.Frag} {σ : St} {H0 S0 : Hp} {e0 e : Env} {c : Bool} {At : α → Hp → Hp → Env → β → Prop} {k : Unit → M α} {Q : β → Hp → Prop} {t : M Unit} (ht : t e = if c = true then .ok () e else .bad) (g : Goal K W σ H0 S0 e0 At (M.bind t k e) Q) : c = true ∧ Goal K W σ H0 S0 e0 At (k () e) Q := by
  unfold M.bind at g
  rw [ht] at g
  cases c with
  | true => exact ⟨rfl, g⟩
  | false => exact g.elim
variable {op : Val → List D → M Val} {r : V → List V → Hp → VK → Prop} {id : String} {name : Str} {apos cpos : Pos} {o : Expr} {fd : M (List D)}
theorem lst_ty {K : PySem.W.Frag} {σ : St} {H0 H S : Hp} {e : Env} {v : Val} {w : V} (A : Abs K σ H S e) (h : VAt K σ H0 H S e v w) (hb : isLstB e v = true) : tyV K "list" w H := by
  unfold isLstB at hb
  split at hb
  · rename_i xs q
    obtain ⟨a, vs, rfl, k1, _⟩ := h.view A q
    exact .inl ⟨rfl, vs, .of k1⟩
  · cases hb
theorem de_meth (slot : Slot "list" name id) (hty : typeOf (.builtin id) = pure (.type "method_descriptor")) (hm : MtR X id r) (hd : MethD X.K op r) (ho : DE X W o f) (ha : DF X W (ex :: es) fd)
    (hbase : attributeBase o name X.env (eval o X.env) = eval o X.env := by rfl)
    (hfew : ((backTo cpos (starEach (ex :: es) X.env)).all (fun x => !x.1) && (backToKw cpos (keywordEach [] X.env)).all (fun x => x.1.isSome)
      && decide ((ex :: es).length + ([] : List Keyword).length + (if ([] : List Keyword).isEmpty then 0 else 1) < 30)) = true := by rfl)
    (hline : (apos.endLine == cpos.line) = true := by rfl) (hs : starEach (ex :: es) X.env = (false, eval ex X.env) :: starEach es X.env := by rfl) (hplain : (backTo cpos (starEach es X.env)).any (·.1) = false := by rfl) :
    DE X W (.Call (.Attribute o name apos) (ex :: es) [] cpos) (dMeth op f fd) :=
  ⟨PE.weak (pe_bm PySem.F.plainAttrs_list slot hty hm ho.pe ha.pa hbase hfew hline hs hplain) fun σ H Q ⟨S, e, A, g⟩ => by
    refine tDx.step A Ext.refl g fun v e1 H1 S1 w1 A1 E1 _ v1 g1 => ?_
    obtain ⟨hb, g2⟩ := unit_step (c := isLstB e1 v) rfl g1
    refine ⟨lst_ty A1 v1 hb, ?_⟩
    refine tDx.step A1 E1 g2 fun vs e2 H2 S2 ws A2 E2 E2' v2 g3 => ?_
    refine fix_step v1 E2' A2 g3 fun v' v1' g4 => ?_
    exact hd W σ H S e H2 S2 e2 v' w1 vs ws Q A2 E2 v1' v2 g4⟩
/-- the own list of a slot, changed; what comes back is data -/
def lstM (f : List D → List D → Option (List D × D)) (v : Val) (ds : List D) : M Val := fun e => match v with
  | .at_ i => (match e[i]? with
    | some (.ow (.lst xs)) => (match f xs ds with
      | some (ys, x) => .ok (.d x) (e.set i (.ow (.lst ys)))
      | none => .bad)
    | _ => .bad)
  | _ => .bad
theorem lstMD {K : PySem.W.Frag} {f : List D → List D → Option (List D × D)} {r : V → List V → Hp → VK → Prop}
    (hr : ∀ (H S : Hp) (Q : VK) (l : Addr) (xs ds ys : List D) (x : D) (vs ws : List V), H l = some (.lst vs) → RepL K S xs vs → RepL K S ds ws → f xs ds = some (ys, x) → Same S H → (∀ us y, RepL K S ys us → Rep K S x y → Q y (upd H l (.lst us))) → r (.ref l) ws H Q) : MethD K (lstM f) r := by
  intro W σ H0 S0 e0 H S e v w ds ws Q A E hv hd g
  cases v with
  | d y => exact g.elim
  | new y => exact g.elim
  | at_ i =>
    unfold lstM at g
    simp only at g
    cases q : e[i]? with
    | none => simp only [q] at g; exact g.elim
    | some s =>
      cases s with
      | ow o =>
        cases o with
        | lst xs =>
          simp only [q] at g
          cases q2 : f xs ds with
          | none => simp only [q2] at g; exact g.elim
          | some yx =>
            obtain ⟨ys, x⟩ := yx
            simp only [q2] at g
            obtain ⟨s, h1, h2, h3⟩ := hv
            obtain ⟨l, k1, k2, vs, k3, k4⟩ := A.at_ i _ q
            rw [h3] at k1
            cases k1
            refine hr H S Q l xs ds ys x vs ws k3 k4 hd q2 A.sub fun us y hus hy => ?_
            obtain ⟨A2, E2⟩ := own_write (o' := .lst ys) (u := .lst us) A q h3 ⟨us, upd_same, hus⟩
            exact fin_d A2 (E.trans E2) hy g
        | _ => simp only [q] at g; exact g.elim
      | _ => simp only [q] at g; exact g.elim
def appF (xs ds : List D) : Option (List D × D) := match ds with
  | [x] => if xs.length < sizeLine then some (xs ++ [x], .non) else none
  | _ => none
def extF (xs ds : List D) : Option (List D × D) := match ds with
  | [.lst zs] => if xs.length + zs.length ≤ sizeLine then some (xs ++ zs, .non) else none
  | _ => none
def popF (xs ds : List D) : Option (List D × D) := match ds with
  | [] => (xs[xs.length - 1]?).map fun x => (xs.dropLast, x)
  | _ => none
def popAtF (xs ds : List D) : Option (List D × D) := match ds with
  | [.int i] => if -(2 ^ 63) ≤ i ∧ i < 2 ^ 63 then (match seqIndex? i xs.length with
    | some k => (xs[k]?).map fun x => (xs.eraseIdx k, x)
    | none => none) else none
  | _ => none
theorem repL_erase {K : PySem.W.Frag} {H : Hp} {xs : List D} {vs : List V} (h : RepL K H xs vs) (k : Nat) : RepL K H (xs.eraseIdx k) (vs.eraseIdx k) := by
  rw [List.eraseIdx_eq_take_drop_succ, List.eraseIdx_eq_take_drop_succ]
  exact (h.take _).append (h.drop _)
theorem appD {K : PySem.W.Frag} : MethD K (lstM appF) rAppend := lstMD fun H S Q l xs ds ys x vs ws h1 h2 h3 h4 _ k => by
  unfold appF at h4
  split at h4
  · rename_i y
    split at h4
    · rename_i hz
      cases h4
      obtain ⟨w, us, rfl, r1, r2⟩ := repL_cons.mp h3
      rw [repL_nil] at r2
      subst r2
      exact ⟨l, vs, w, rfl, rfl, h1, by rw [← h2.length]; exact hz, k _ _ (h2.append (.cons r1 .nil)) (rep_non.mpr rfl)⟩
    · cases h4
  · cases h4
theorem extD {K : PySem.W.Frag} : MethD K (lstM extF) rExtend := lstMD fun H S Q l xs ds ys x vs ws h1 h2 h3 h4 sub k => by
  unfold extF at h4
  split at h4
  · rename_i zs
    split at h4
    · rename_i hz
      cases h4
      obtain ⟨w, us, rfl, r1, r2⟩ := repL_cons.mp h3
      rw [repL_nil] at r2
      subst r2
      obtain ⟨b, qs, rfl, k1, k2⟩ := rep_lst.mp r1
      exact ⟨l, b, vs, qs, rfl, rfl, h1, sub _ _ k1, by rw [← h2.length, ← k2.length]; exact hz, k _ _ (h2.append k2) (rep_non.mpr rfl)⟩
    · cases h4
  · cases h4
theorem popAtD {K : PySem.W.Frag} : MethD K (lstM popAtF) rPopAt := lstMD fun H S Q l xs ds ys x vs ws h1 h2 h3 h4 sub k => by
  unfold popAtF at h4
  split at h4
  · rename_i i
    split at h4
    · rename_i hi
      cases q : seqIndex? i xs.length with
      | none => rw [q] at h4; cases h4
      | some n =>
        rw [q] at h4
        simp only at h4
        cases q2 : xs[n]? with
        | none => rw [q2] at h4; cases h4
        | some y =>
          rw [q2] at h4
          cases h4
          obtain ⟨w, us, rfl, r1, r2⟩ := repL_cons.mp h3
          rw [repL_nil] at r2
          subst r2
          obtain rfl := rep_int.mp r1
          obtain ⟨v, j1, j2⟩ := h2.get q2
          exact ⟨l, vs, i, n, v, rfl, rfl, h1, hi.1, hi.2, by rw [← h2.length]; exact q, j1, k _ _ (repL_erase h2 n) j2⟩
    · cases h4
  · cases h4
end
end DL

set_option maxHeartbeats 4000000
/-! DL6: statements. -/
namespace DL
open PySem PySem.Spec PyProof.Rows L2
variable [TabsT]

inductive SO where
  | nx (e : Env)
  | bk (e : Env)
  | ct (e : Env)
  | rt (v : Val) (e : Env)
  | er (x : Exn) (e : Env)
  | bad
abbrev SM := Env → SO
/-- the first slots stay -/
def Pr (np : Nat) (σ σ' : St) : Prop := ∀ j, j < np → σ'[j]? = σ[j]?
theorem Pr.refl {np : Nat} {σ : St} : Pr np σ σ := fun _ _ => rfl
theorem Pr.trans {np : Nat} {a b c : St} (h : Pr np a b) (k : Pr np b c) : Pr np a c := fun j hj => (k j hj).trans (h j hj)
/-- what is handed back: data, or an object that was not there, or one of the def's own names -/
def RAt (K : PySem.W.Frag) (np : Nat) (σ0 : St) (e0 : Env) (H0 : Hp) (σ : St) (H S : Hp) (e : Env) : Val → V → Prop
  | .d x, w => Rep K S x w
  | .new o, w => ∃ a, w = .ref a ∧ S a = none ∧ ORep K H S a o ∧ ¬ Had σ e a ∧ (H0 a = none ∨ Own np σ0 e0 a)
  | .at_ _, _ => False
def SGoal (K : PySem.W.Frag) (W : WX) (np : Nat) (σ0 : St) (H0 S0 : Hp) (e0 : Env) (r : SO) (D : Ends) : Prop :=
  match r with
  | .nx e => ∀ σ H S, Abs K σ H S e → Ext σ0 e0 H0 S0 σ e H S → Pr np σ0 σ → D.nx σ H
  | .bk e => ∀ σ H S, Abs K σ H S e → Ext σ0 e0 H0 S0 σ e H S → Pr np σ0 σ → D.bk σ H
  | .ct e => ∀ σ H S, Abs K σ H S e → Ext σ0 e0 H0 S0 σ e H S → Pr np σ0 σ → D.ct σ H
  | .rt v e => ∀ σ H S w, Abs K σ H S e → Ext σ0 e0 H0 S0 σ e H S → Pr np σ0 σ → RAt K np σ0 e0 H0 σ H S e v w → D.rt w H
  | .er x e => ∀ σ H S cls d, Abs K σ H S e → Ext σ0 e0 H0 S0 σ e H S → Pr np σ0 σ → XAt K H S x cls d → W cls d σ H
  | .bad => False
def tDs (K : PySem.W.Frag) (W : WX) (np : Nat) (f : SM) : TS := fun D σ H => ∃ S e, Abs K σ H S e ∧ SGoal K W np σ H S e (f e) D
structure DS (X : Cx) (W : WX) (np : Nat) (st : Stmt) (f : SM) : Prop where
  ps : PS X st (tDs X.K W np f)
structure DSs (X : Cx) (W : WX) (np : Nat) (st : List Stmt) (f : SM) : Prop where
  pss : PSs X st (tDs X.K W np f)
theorem PSs.weak {X : Cx} {e : List Stmt} {t t' : TS} (h : PSs X e t) (k : ∀ D σ H, t' D σ H → t D σ H) : PSs X e t' := ⟨fun pins s σ H Q I q => h.run pins s σ H Q I (k Q σ H q)⟩
section
variable {K : PySem.W.Frag} {W : WX} {np : Nat} {σ0 σ1 : St} {H0 S0 H1 S1 : Hp} {e0 e1 : Env} {D : Ends}
theorem RAt.base {σ : St} {H S : Hp} {e : Env} {v : Val} {w : V} (h : RAt K np σ1 e1 H1 σ H S e v w) (E : Ext σ0 e0 H0 S0 σ1 e1 H1 S1) : RAt K np σ0 e0 H0 σ H S e v w := by
  cases v with
  | d x => exact h
  | at_ i => exact h
  | new o =>
    obtain ⟨a, k1, k2, k3, k4, k5⟩ := h
    exact ⟨a, k1, k2, k3, k4, k5.elim (fun z => .inl (E.tr a z)) fun z => (E.ow np a z).elim .inr .inl⟩
/-- a goal that began earlier, begun anew -/
theorem SGoal.from {r : SO} (g : SGoal K W np σ0 H0 S0 e0 r D) (E : Ext σ0 e0 H0 S0 σ1 e1 H1 S1) (P : Pr np σ0 σ1) : SGoal K W np σ1 H1 S1 e1 r D := by
  cases r with
  | nx e => exact fun σ H S A E' P' => g σ H S A (E.trans E') (P.trans P')
  | bk e => exact fun σ H S A E' P' => g σ H S A (E.trans E') (P.trans P')
  | ct e => exact fun σ H S A E' P' => g σ H S A (E.trans E') (P.trans P')
  | rt v e => exact fun σ H S w A E' P' v' => g σ H S w A (E.trans E') (P.trans P') (v'.base E)
  | er x e => exact fun σ H S c d A E' P' v' => g σ H S c d A (E.trans E') (P.trans P') v'
  | bad => exact g
end

/-! ### one behind the other -/
def sNx : SM := .nx
def sSeq (f g : SM) : SM := fun e => match f e with
  | .nx e' => g e'
  | .bk e' => .bk e'
  | .ct e' => .ct e'
  | .rt v e' => .rt v e'
  | .er x e' => .er x e'
  | .bad => .bad
/-- an expression, then a statement's rest -/
def sBind {α : Type} (f : M α) (k : α → SM) : SM := fun e => match f e with
  | .ok a e' => k a e'
  | .er x e' => .er x e'
  | .bad => .bad
section
variable {X : Cx} {W : WX} {np : Nat} {pos : Pos} {st : Stmt} {rest : List Stmt} {f g : SM} {ex : Expr} {fe : M Val}
/-- the expression runs, the rest's goal is handed on, begun where the statement begins -/
theorem sBind.step {α β : Type} {K : PySem.W.Frag} {σ : St} {H S : Hp} {e : Env} {At : St → Hp → α → Hp → Hp → Env → β → Prop} {f : M α} {k : α → SM} {D : Ends} {R : β → Hp → Prop} (A : Abs K σ H S e) (gl : SGoal K W np σ H S e (sBind f k e) D)
    (h : ∀ a e' H' S' w, Abs K σ H' S' e' → Ext σ e H S σ e' H' S' → At σ H a H' S' e' w → SGoal K W np σ H S e (k a e') D → R w H') : tDx K W At f σ H R := by
  refine ⟨S, e, A, ?_⟩
  unfold sBind at gl
  cases q : f e with
  | ok a e' =>
    rw [q] at gl
    intro H' S' w A' E' v
    exact h a e' H' S' w A' E' v gl
  | er x e' =>
    rw [q] at gl
    intro H' S' cls d A' E' v
    exact gl σ H' S' cls d A' E' Pr.refl v
  | bad =>
    rw [q] at gl
    exact gl
theorem dss_nil : DSs X W np [] sNx := ⟨PSs.weak pss_nil fun D σ H ⟨S, e, A, g⟩ => g σ H S A Ext.refl Pr.refl⟩
theorem seq_le {K : PySem.W.Frag} {D : Ends} {σ : St} {H : Hp} (h : tDs K W np (sSeq f g) D σ H) : tSeq (tDs K W np f) (tDs K W np g) D σ H := by
  obtain ⟨S, e, A, k⟩ := h
  refine ⟨S, e, A, ?_⟩
  unfold sSeq at k
  cases q : f e with
  | nx e' =>
    rw [q] at k
    exact fun σ' H' S' A' E' P' => ⟨S', e', A', SGoal.from k E' P'⟩
  | bk e' => rw [q] at k; exact k
  | ct e' => rw [q] at k; exact k
  | rt v e' => rw [q] at k; exact k
  | er x e' => rw [q] at k; exact k
  | bad => rw [q] at k; exact k
theorem dss_cons (h : DS X W np st f) (hs : DSs X W np rest g) : DSs X W np (st :: rest) (sSeq f g) := ⟨PSs.weak (pss_cons h.ps hs.pss) fun _ _ _ h => seq_le h⟩
theorem dss_one (h : DS X W np st f) : DSs X W np [st] f := ⟨pss_one h.ps⟩
theorem ds_break : DS X W np (.Break pos) SO.bk := ⟨PS.weak ps_break fun D σ H ⟨S, e, A, g⟩ => g σ H S A Ext.refl Pr.refl⟩
theorem ds_continue : DS X W np (.Continue pos) SO.ct := ⟨PS.weak ps_continue fun D σ H ⟨S, e, A, g⟩ => g σ H S A Ext.refl Pr.refl⟩
def sDrop (fe : M Val) : SM := sBind fe fun _ => sNx
theorem ds_expr (h : DE X W ex fe) (hs : swapsWith ex none pos.line X.env = pure false := by rfl) : DS X W np (.Expr ex pos) (sDrop fe) := ⟨PS.weak (ps_expr h.pe hs) fun D σ H ⟨S, e, A, g⟩ => by
  refine sBind.step A g fun a e' H' S' w A' E' v gl => ?_
  exact gl σ H' S' A' E' Pr.refl⟩
/-- freezing within a statement -/
theorem frzS_step {K : PySem.W.Frag} {σ : St} {H0 S0 H S : Hp} {e0 e : Env} {v : Val} {w : V} {k : D → SM} {D : Ends} {P : Prop} (A : Abs K σ H S e) (E : Ext σ e0 H0 S0 σ e H S) (h : VAt K σ H0 H S e v w) (g : SGoal K W np σ H0 S0 e0 (sBind (frz v) k e) D)
    (st : ∀ x e' S', Abs K σ H S' e' → Ext σ e0 H0 S0 σ e' H S' → Same S S' → Rep K S' x w → SGoal K W np σ H0 S0 e0 (k x e') D → P) : P := by
  have never : ∀ x e2, frz v e ≠ .er x e2 := fun x e2 z => by
    unfold frz at z
    split at z
    · cases z
    · split at z <;> cases z
    · split at z
      · split at z <;> cases z
      · cases z
  refine frz_step (W := W) (k := fun x e => .ok x e) (At := fun (x : DL.D) H S e (w : V) => Rep K S x w) (Q := fun _ _ => True) A E h ?_ fun x e' S' hf A' E' sm r _ => st x e' S' A' E' sm r ?_
  · unfold M.bind
    cases z : frz v e with
    | ok x e2 => exact fun _ _ _ _ _ _ => trivial
    | er x e2 => exact (never x e2 z).elim
    | bad =>
      unfold sBind at g
      rw [z] at g
      exact g
  · unfold sBind at g
    rw [hf] at g
    exact g
/-- what a value is once it is handed back: an own name's object is nobody's then -/
def retV (np : Nat) (v : Val) : SM := fun e => match v with
  | .d x => .rt (.d x) e
  | .new o => .rt (.new o) e
  | .at_ i => if i < np then sBind (frz (.at_ i)) (fun x => .rt (.d x)) e else (match e[i]? with
    | some (.ow o) => .rt (.new o) (e.set i .no)
    | _ => .bad)
def sRet (np : Nat) (fe : M Val) : SM := sBind fe (retV np)
/-- a slot forgotten -/
theorem forget_abs {K : PySem.W.Frag} {σ : St} {H S : Hp} {e : Env} (A : Abs K σ H S e) (i : Nat) : Abs K σ H S (e.set i .no) ∧ Ext σ e H S σ (e.set i .no) H S := by
  have back : ∀ (j : Nat) (t : SV), (e.set i .no)[j]? = some t → isHad t = true → e[j]? = some t ∧ j ≠ i := fun j t ht hh => by
    by_cases hj : i = j
    · subst hj
      by_cases hl : i < e.length
      · rw [List.getElem?_set_self hl] at ht
        cases ht
        cases hh
      · rw [List.getElem?_eq_none (by rw [List.length_set]; omega)] at ht
        cases ht
    · rw [List.getElem?_set_ne hj] at ht
      exact ⟨ht, Ne.symm hj⟩
  have owf : ∀ t : SV, isOw t = true → isHad t = true := fun t ht => by cases t <;> first | rfl | cases ht
  refine ⟨⟨by rw [List.length_set]; exact A.len, A.sub, fun j t ht => ?_, fun j1 j2 t1 t2 b h1 h2 o1 o2 x1 x2 => ?_, A.tab, A.nt, A.ot⟩, ⟨Same.refl _, fun b z hb nb _ => ⟨hb, fun _ => id⟩, fun b hb => hb, fun k b ⟨j, t, hk, ht, o1, hx⟩ => ?_, fun b ⟨j, t, ht, o1, hx⟩ => ?_, fun j t ht hk => ⟨⟨t, (back j t ht (by cases t <;> first | rfl | cases hk)).1, hk⟩, rfl⟩, id⟩⟩
  · by_cases hj : i = j
    · subst hj
      by_cases hl : i < e.length
      · rw [List.getElem?_set_self hl] at ht
        cases ht
        trivial
      · rw [List.getElem?_eq_none (by rw [List.length_set]; omega)] at ht
        cases ht
    · rw [List.getElem?_set_ne hj] at ht
      exact A.at_ j t ht
  · exact A.ap j1 j2 t1 t2 b (back j1 t1 h1 o1).1 (back j2 t2 h2 o2).1 o1 o2 x1 x2
  · exact .inl ⟨j, t, hk, (back j t ht (owf _ o1)).1, o1, hx⟩
  · exact .inl ⟨j, t, (back j t ht o1).1, o1, hx⟩
theorem ret_le {K : PySem.W.Frag} {D : Ends} {σ : St} {H : Hp} (h : tDs K W np (sRet np fe) D σ H) : tD K W fe σ H D.rt := by
  obtain ⟨S, e, A, g⟩ := h
  refine sBind.step A g fun v e' H' S' w A' E' hv gl => ?_
  cases v with
  | d x => exact gl σ H' S' w A' E' Pr.refl hv
  | new o =>
    obtain ⟨a, k1, k2, k3, k4, k5⟩ := hv
    exact gl σ H' S' w A' E' Pr.refl ⟨a, k1, k2, k3, k4, .inl k5⟩
  | at_ i =>
    unfold retV at gl
    simp only at gl
    by_cases hi : i < np
    · rw [if_pos hi] at gl
      exact frzS_step A' E' hv gl fun x e2 S2 A2 E2 _ r2 g3 => g3 σ H' S2 w A2 E2 Pr.refl r2
    · rw [if_neg hi] at gl
      split at gl
      · rename_i o q
        obtain ⟨s, h1, h2, h3⟩ := hv
        obtain ⟨a, j1, j2, j3⟩ := A'.at_ i _ q
        rw [h3] at j1
        cases j1
        obtain ⟨A2, E2⟩ := forget_abs A' i
        refine gl σ H' S' (.ref a) A2 (E'.trans E2) Pr.refl ⟨a, rfl, j2, j3, fun hh => ?_, ?_⟩
        · obtain ⟨j, t, ht, hh, hx⟩ := hh
          by_cases hj : i = j
          · subst hj
            have hl : i < e'.length := (List.getElem?_eq_some_iff.mp q).1
            rw [List.getElem?_set_self hl] at ht
            cases ht
            cases hh
          · rw [List.getElem?_set_ne hj] at ht
            exact hj (A'.ap i j _ t a q ht rfl hh h3 hx)
        · have own : Own np σ e' a := ⟨i, _, Nat.le_of_not_lt hi, q, rfl, h3⟩
          exact (E'.ow np a own).elim .inr .inl
      · exact gl.elim
theorem ds_ret (h : DE X W ex fe) : DS X W np (.Return (some ex) pos) (sRet np fe) := ⟨PS.weak (ps_ret h.pe) fun _ _ _ k => ret_le k⟩
def sIf (fc : M Bool) (f g : SM) : SM := sBind fc fun b => if b = true then f else g
theorem ds_if {c : Expr} {body els : List Stmt} {fc : M Bool} (hc : DT X W c fc) (hb : DSs X W np body f) (he : DSs X W np els g) : DS X W np (.If c body els pos) (sIf fc f g) := ⟨PS.weak (ps_if hc.pt hb.pss he.pss) fun D σ H ⟨S, e, A, gl⟩ => by
  refine sBind.step A gl fun b e' H' S' w A' E' hv k => ?_
  cases hv
  cases b with
  | true => rw [if_pos rfl] at k ⊢; exact ⟨S', e', A', SGoal.from k E' Pr.refl⟩
  | false => rw [if_neg Bool.false_ne_true] at k ⊢; exact ⟨S', e', A', SGoal.from k E' Pr.refl⟩⟩

/-! ### names stored -/
/-- a value into a slot -/
def setV (i : Nat) (v : Val) : SM := fun e => match v with
  | .d x => .nx (e.set i (.sh x))
  | .new o => .nx (e.set i (.ow o))
  | .at_ j => sBind (frz (.at_ j)) (fun x e => .nx (e.set i (.sh x))) e
def sSet (i : Nat) (fe : M Val) : SM := sBind fe (setV i)
theorem set_abs {K : PySem.W.Frag} {σ : St} {H0 H S : Hp} {e : Env} {s : SV} {w : V} {i : Nat} (A : Abs K σ H S e) (k : SAt K (some (some w)) H S s) (hs : isLk s = false) (nh : ∀ a, isHad s = true → w = .ref a → ¬ Had σ e a) (fr : ∀ a, isHad s = true → w = .ref a → H0 a = none) :
    Abs K (σ.set i (some w)) H S (e.set i s) ∧ ∀ {σ0 e0 S0}, Ext σ0 e0 H0 S0 σ e H S → Ext σ0 e0 H0 S0 (σ.set i (some w)) (e.set i s) H S := by
  by_cases hl : i < e.length
  · have hlσ : i < σ.length := by rw [← A.len]; exact hl
    have owf : ∀ t : SV, isOw t = true → isHad t = true := fun t ht => by cases t <;> first | rfl | cases ht
    have look : ∀ (j : Nat) (t : SV) (a : Addr), (e.set i s)[j]? = some t → isHad t = true → (σ.set i (some w))[j]? = some (some (V.ref a)) → (j = i ∧ t = s ∧ w = .ref a) ∨ (j ≠ i ∧ e[j]? = some t ∧ σ[j]? = some (some (V.ref a))) := fun j t a ht hh hx => by
      by_cases hj : i = j
      · subst hj
        rw [List.getElem?_set_self hl] at ht
        rw [List.getElem?_set_self hlσ] at hx
        cases ht
        exact .inl ⟨rfl, rfl, Option.some.inj (Option.some.inj hx)⟩
      · rw [List.getElem?_set_ne hj] at ht hx
        exact .inr ⟨Ne.symm hj, ht, hx⟩
    refine ⟨⟨by rw [List.length_set, List.length_set]; exact A.len, A.sub, fun j t ht => ?_, fun j1 j2 t1 t2 b h1 h2 o1 o2 x1 x2 => ?_, A.tab, A.nt, A.ot⟩, fun {σ0 e0 S0} E => ⟨E.sm, E.fr, E.tr, fun kk b ⟨j, t, hk, ht, o1, hx⟩ => ?_, fun b ⟨j, t, ht, o1, hx⟩ => ?_, fun j t ht hk => ?_, E.tb⟩⟩
    · by_cases hj : i = j
      · subst hj
        rw [List.getElem?_set_self hl] at ht
        rw [List.getElem?_set_self hlσ]
        cases ht
        exact k
      · rw [List.getElem?_set_ne hj] at ht ⊢
        exact A.at_ j t ht
    · rcases look j1 t1 b h1 o1 x1 with ⟨r1, r2, r3⟩ | ⟨r1, r2, r3⟩
      · rcases look j2 t2 b h2 o2 x2 with ⟨q1, q2, q3⟩ | ⟨q1, q2, q3⟩
        · rw [r1, q1]
        · subst r2
          exact (nh b o1 r3 ⟨j2, t2, q2, o2, q3⟩).elim
      · rcases look j2 t2 b h2 o2 x2 with ⟨q1, q2, q3⟩ | ⟨q1, q2, q3⟩
        · subst q2
          exact (nh b o2 q3 ⟨j1, t1, r2, o1, r3⟩).elim
        · exact A.ap j1 j2 t1 t2 b r2 q2 o1 o2 r3 q3
    · rcases look j t b ht (owf _ o1) hx with ⟨r1, r2, r3⟩ | ⟨r1, r2, r3⟩
      · subst r2
        exact .inr (fr b (owf _ o1) r3)
      · exact E.ow kk b ⟨j, t, hk, r2, o1, r3⟩
    · rcases look j t b ht o1 hx with ⟨r1, r2, r3⟩ | ⟨r1, r2, r3⟩
      · subst r2
        exact .inr (fr b o1 r3)
      · exact E.hd b ⟨j, t, r2, o1, r3⟩
    · by_cases hj : i = j
      · subst hj
        rw [List.getElem?_set_self hl] at ht
        cases ht
        rw [hs] at hk
        cases hk
      · rw [List.getElem?_set_ne hj] at ht ⊢
        exact E.lk j t ht hk
  · have hlσ : ¬ i < σ.length := by rw [← A.len]; exact hl
    rw [List.set_eq_of_length_le (by omega), List.set_eq_of_length_le (by omega)]
    exact ⟨A, fun E => E⟩
theorem pr_set {np i : Nat} {σ : St} {w : V} (h : np ≤ i) : Pr np σ (σ.set i (some w)) := fun j hj => by rw [List.getElem?_set_ne (by omega)]
theorem set_le {K : PySem.W.Frag} {i : Nat} {D : Ends} {σ : St} {H0 S0 H S : Hp} {e0 e : Env} {v : Val} {w : V} (hi : np ≤ i) (A : Abs K σ H S e) (E : Ext σ e0 H0 S0 σ e H S) (h : VAt K σ H0 H S e v w) (g : SGoal K W np σ H0 S0 e0 (setV i v e) D) : D.nx (σ.set i (some w)) H := by
  cases v with
  | d x =>
    obtain ⟨A1, E1⟩ := set_abs (H0 := H0) (i := i) (s := .sh x) (w := w) A ⟨w, rfl, h⟩ rfl (fun a z => by cases z) (fun a z => by cases z)
    exact g _ H S A1 (E1 E) (pr_set hi)
  | new o =>
    obtain ⟨a, rfl, k2, k3, k4, k5⟩ := h
    obtain ⟨A1, E1⟩ := set_abs (H0 := H0) (i := i) (s := .ow o) (w := .ref a) A ⟨a, rfl, k2, k3⟩ rfl (fun b _ z => by cases z; exact k4) (fun b _ z => by cases z; exact k5)
    exact g _ H S A1 (E1 E) (pr_set hi)
  | at_ j =>
    refine frzS_step A E h g fun x e' S' A' E' _ r g2 => ?_
    obtain ⟨A1, E1⟩ := set_abs (H0 := H0) (i := i) (s := .sh x) (w := w) A' ⟨w, rfl, r⟩ rfl (fun a z => by cases z) (fun a z => by cases z)
    exact g2 _ H S' A1 (E1 E') (pr_set hi)
theorem ds_set {i : Nat} {x : Str} {pos' : Pos} (hi : np ≤ i) (hN : X.N.Nodup) (hx : X.N[i]? = some x) (hl : Loc X.env.scope x) (h : DE X W ex fe) (hs : swapsWith ex (some (.Name x pos')) pos.line X.env = pure false := by rfl) (hf : X.fn x = true ∨ X.env.scope.names.lookup x = some .local := by first | exact .inl rfl | exact .inr rfl | assumption) :
    DS X W np (.Assign [.Name x pos'] ex pos) (sSet i fe) := ⟨PS.weak (ps_set hN hx hl h.pe hs hf) fun D σ H ⟨S, e, A, g⟩ => by
  refine sBind.step A g fun v e' H' S' w A' E' hv gl => ?_
  exact set_le hi A' E' hv gl⟩
end
end DL

set_option maxHeartbeats 4000000
/-! DL7: defs: what one promises, its body, its calls. -/
namespace DL
open PySem PySem.Spec PyProof.Rows L2
variable [TabsT]

/-- the promise of a def with the meaning F (of the arguments as slots) -/
def spD (K : PySem.W.Frag) (F : M Val) : Sp := fun vs H Q E => ∃ S e, Abs K (vs.map some) H S e ∧ Goal K (fun c d _ H' => E c d H') (vs.map some) H S e (vAt K (vs.map some) H) (F e) Q
/-- a body as such a meaning; the parameters are never stored -/
def runF (np N : Nat) (body : SM) : M Val := fun args => if args.length = np then (match body (args ++ List.replicate (N - np) .no) with
  | .nx e => .ok (.d .non) (e.take np)
  | .rt v e => .ok v (e.take np)
  | .er x e => .er x (e.take np)
  | _ => .bad) else .bad
section
variable {K : PySem.W.Frag}
theorem start_eq (N : List Str) (vs : List V) : L2.start N vs = vs.map some ++ List.replicate (N.length - vs.length) none := rfl
theorem own_app {k n : Nat} {σ : St} {e : Env} {b : Addr} {m : Nat} (hl : e.length = σ.length) : Own k (σ ++ List.replicate n none) (e ++ List.replicate m .no) b ↔ Own k σ e b := by
  constructor
  · rintro ⟨i, s, h0, h1, h2, h3⟩
    by_cases hi : i < e.length
    · rw [List.getElem?_append_left hi] at h1
      rw [List.getElem?_append_left (by omega)] at h3
      exact ⟨i, s, h0, h1, h2, h3⟩
    · rw [List.getElem?_append_right (by omega), List.getElem?_replicate] at h1
      split at h1
      · cases h1; cases h2
      · cases h1
  · rintro ⟨i, s, h0, h1, h2, h3⟩
    have hi : i < e.length := (List.getElem?_eq_some_iff.mp h1).1
    exact ⟨i, s, h0, by rw [List.getElem?_append_left hi]; exact h1, h2, by rw [List.getElem?_append_left (by omega)]; exact h3⟩
theorem had_app {n : Nat} {σ : St} {e : Env} {b : Addr} {m : Nat} (hl : e.length = σ.length) : Had (σ ++ List.replicate n none) (e ++ List.replicate m .no) b ↔ Had σ e b := by
  constructor
  · rintro ⟨i, s, h1, h2, h3⟩
    by_cases hi : i < e.length
    · rw [List.getElem?_append_left hi] at h1
      rw [List.getElem?_append_left (by omega)] at h3
      exact ⟨i, s, h1, h2, h3⟩
    · rw [List.getElem?_append_right (by omega), List.getElem?_replicate] at h1
      split at h1
      · cases h1; cases h2
      · cases h1
  · rintro ⟨i, s, h1, h2, h3⟩
    have hi : i < e.length := (List.getElem?_eq_some_iff.mp h1).1
    exact ⟨i, s, by rw [List.getElem?_append_left hi]; exact h1, h2, by rw [List.getElem?_append_left (by omega)]; exact h3⟩
theorem start_abs {σ : St} {H S : Hp} {e : Env} {n : Nat} (A : Abs K σ H S e) : Abs K (σ ++ List.replicate n none) H S (e ++ List.replicate n .no) := by
  have get : ∀ (i : Nat) (s : SV), (e ++ List.replicate n .no)[i]? = some s → (e[i]? = some s ∧ (σ ++ List.replicate n none)[i]? = σ[i]?) ∨ s = .no := fun i s h => by
    by_cases hi : i < e.length
    · rw [List.getElem?_append_left hi] at h
      exact .inl ⟨h, List.getElem?_append_left (by rw [← A.len]; exact hi)⟩
    · rw [List.getElem?_append_right (by omega), List.getElem?_replicate] at h
      split at h
      · cases h; exact .inr rfl
      · cases h
  have owf : ∀ t : SV, isOw t = true → isHad t = true := fun t ht => by cases t <;> first | rfl | cases ht
  refine ⟨by rw [List.length_append, List.length_append, List.length_replicate, List.length_replicate, A.len], A.sub, fun i s h => ?_, fun i j s t a h1 h2 o1 o2 x1 x2 => ?_, A.tab, A.nt, A.ot⟩
  · rcases get i s h with ⟨h1, h2⟩ | h1
    · rw [h2]; exact A.at_ i s h1
    · subst h1; trivial
  · rcases get i s h1 with ⟨k1, k2⟩ | k1
    · rcases get j t h2 with ⟨k3, k4⟩ | k3
      · rw [k2] at x1
        rw [k4] at x2
        exact A.ap i j s t a k1 k3 o1 o2 x1 x2
      · subst k3; cases o2
    · subst k1; cases o1
/-- the parameters' part of the end -/
theorem take_abs {np : Nat} {σ0 σ : St} {H S : Hp} {e : Env} (A : Abs K σ H S e) (hl : σ0.length = np) (hn : np ≤ σ.length) (P : ∀ j, j < np → σ[j]? = σ0[j]?) : Abs K σ0 H S (e.take np) := by
  have le := A.len
  have get : ∀ (i : Nat) (s : SV), (e.take np)[i]? = some s → i < np ∧ e[i]? = some s := fun i s h => by
    rw [List.getElem?_take] at h
    split at h
    · rename_i q; exact ⟨q, h⟩
    · cases h
  refine ⟨by rw [List.length_take]; omega, A.sub, fun i s h => ?_, fun i j s t a h1 h2 o1 o2 x1 x2 => ?_, A.tab, A.nt, A.ot⟩
  · obtain ⟨h1, h2⟩ := get i s h
    rw [← P i h1]
    exact A.at_ i s h2
  · obtain ⟨k1, k2⟩ := get i s h1
    obtain ⟨k3, k4⟩ := get j t h2
    exact A.ap i j s t a k2 k4 o1 o2 (by rw [P i k1]; exact x1) (by rw [P j k3]; exact x2)
theorem own_take {np k : Nat} {σ0 σ : St} {e : Env} {b : Addr} (P : ∀ j, j < np → σ[j]? = σ0[j]?) (h : Own k σ0 (e.take np) b) : Own k σ e b := by
  obtain ⟨i, s, h0, h1, h2, h3⟩ := h
  rw [List.getElem?_take] at h1
  split at h1
  · rename_i q; exact ⟨i, s, h0, h1, h2, by rw [P i q]; exact h3⟩
  · cases h1
theorem had_take {np : Nat} {σ0 σ : St} {e : Env} {b : Addr} (P : ∀ j, j < np → σ[j]? = σ0[j]?) (h : Had σ0 (e.take np) b) : Had σ e b := by
  obtain ⟨i, s, h1, h2, h3⟩ := h
  rw [List.getElem?_take] at h1
  split at h1
  · rename_i q; exact ⟨i, s, h1, h2, by rw [P i q]; exact h3⟩
  · cases h1
/-- a body runs from its arguments -/
theorem run_le {W : WX} {np N : Nat} {body : SM} {vs : List V} {H : Hp} {Q : VK} {E : XK} (hW : ∀ c d σ H, E c d H → W c d σ H) (h : spD K (runF np N body) vs H Q E) (hn : np ≤ N) :
    vs.length = np ∧ tDs K (fun c d _ H' => E c d H') np body { nx := fun _ H' => Q .non H', rt := Q } (vs.map some ++ List.replicate (N - np) none) H := by
  obtain ⟨S, args, A, g⟩ := h
  have la : args.length = vs.length := by rw [A.len, List.length_map]
  unfold runF at g
  by_cases hl : args.length = np
  · rw [if_pos hl] at g
    refine ⟨by rw [← la]; exact hl, S, args ++ List.replicate (N - np) .no, start_abs A, ?_⟩
    have lm : (vs.map some).length = np := by rw [List.length_map, ← la, hl]
    have fin : ∀ {σ : St} {H' S' : Hp} {e : Env}, Abs K σ H' S' e → Ext (vs.map some ++ List.replicate (N - np) none) (args ++ List.replicate (N - np) .no) H S σ e H' S' → Pr np (vs.map some ++ List.replicate (N - np) none) σ →
        (∀ j, j < np → σ[j]? = (vs.map some)[j]?) ∧ Abs K (vs.map some) H' S' (e.take np) ∧ Ext (vs.map some) args H S (vs.map some) (e.take np) H' S' := fun {σ H' S' e} A' E' P' => by
      have P2 : ∀ j, j < np → σ[j]? = (vs.map some)[j]? := fun j hj => by rw [P' j hj, List.getElem?_append_left (by omega)]
      have ln : np ≤ σ.length := by
        by_cases h0 : np = 0
        · omega
        · have := P2 (np - 1) (by omega)
          have h2 : (vs.map some)[np - 1]? ≠ none := fun z => by
            have := List.getElem?_eq_none_iff.mp z
            omega
          rw [← this] at h2
          have h3 : ¬ σ.length ≤ np - 1 := fun z => h2 (List.getElem?_eq_none_iff.mpr z)
          omega
      refine ⟨P2, take_abs A' lm ln P2, ⟨E'.sm, fun b o hb nb nt => E'.fr b o hb (fun q => nb ((own_app (A.len)).mp q)) nt, E'.tr, fun k b hb => ?_, fun b hb => ?_, fun j t ht hk => ?_, E'.tb⟩⟩
      · exact (E'.ow k b (own_take P2 hb)).imp (own_app A.len).mp id
      · exact (E'.hd b (had_take P2 hb)).imp (had_app A.len).mp id
      · rw [List.getElem?_take] at ht
        split at ht
        · rename_i q
          obtain ⟨⟨t', h1, h2⟩, _⟩ := E'.lk j t ht hk
          rw [List.getElem?_append_left (by omega)] at h1
          exact ⟨⟨t', h1, h2⟩, rfl⟩
        · cases ht
    cases q : body (args ++ List.replicate (N - np) .no) with
    | nx e =>
      rw [q] at g
      intro σ H' S' A' E' P'
      obtain ⟨_, A2, E2⟩ := fin A' E' P'
      exact g H' S' .non A2 E2 (show Rep K S' .non .non from rep_non.mpr rfl)
    | rt v e =>
      rw [q] at g
      intro σ H' S' w A' E' P' hv
      obtain ⟨P2, A2, E2⟩ := fin A' E' P'
      refine g H' S' w A2 E2 ?_
      cases v with
      | d x => exact hv
      | at_ i => exact hv.elim
      | new o =>
        obtain ⟨a, k1, k2, k3, k4, k5⟩ := hv
        refine ⟨a, k1, k2, k3, fun z => k4 (had_take P2 z), ?_⟩
        rcases k5 with k5 | k5
        · exact k5
        · obtain ⟨i, s, h0, h1, h2, h3⟩ := (own_app A.len).mp k5
          have := (List.getElem?_eq_some_iff.mp h1).1
          omega
    | er x e =>
      rw [q] at g
      intro σ H' S' c d A' E' P' hx
      obtain ⟨P2, A2, E2⟩ := fin A' E' P'
      exact g H' S' c d A2 E2 hx
    | bk e => rw [q] at g; exact g.elim
    | ct e => rw [q] at g; exact g.elim
    | bad => rw [q] at g; exact g.elim
  · rw [if_neg hl] at g
    exact g.elim
end
/-- a def's promise, where no repr is under way -/
structure FnOk (P : Program) (w : World) (K : PySem.W.Frag) (mg : Str → Option Value) (base : Heap) (CX : CXT) (k : Nat) (f : Addr) (fd : FuncData) (ps : List Str) (sp : Sp) : Prop where
  len : ∀ vs H Q E, sp vs H Q E → vs.length = ps.length
  run : ∀ (A : Around) (outer : List PySem.Env) (t : Shared) (H : Hp) (args : Args) (us : List Value) (vs : List V) (Q : VK) (E : XK), Room k A → Env0 P w K mg base A outer t H → BindsTo t fd args (ps.zip us) → Vals vs us → sp vs H Q E →
    codeAny (model P w) A (.call (.ref f) args) (CR CX outer P w H t Q E) t
section
variable {X : Cx} {CX : CXT} {k : Nat} {f : Addr} {fd : FuncData} {ps : List Str} {sp : Sp} {dvs : List V} {ds : List Value}
theorem run_sl {pins : List (Addr × Obj)} {σ : St} {E : St → XK} {H : Hp} {t : Shared} {Q : VK} {us : List Value} {vs : List V} (G : FnOk X.prog X.w X.K X.mg X.base CX k f fd ps sp) (hr : Room k X.A) (hb : Binds X.K fd ps ds) (hd : Vals dvs ds) (hp : PassesAt CX X σ (E σ))
    (I : Inv X pins σ H t) (r : Vals vs us) (h : sp (vs ++ dvs) H Q (E σ)) : wpAny (model X.prog X.w) X.A (call (.ref f) us) (EP X pins σ Q) X.xe t := by
  have ra : Vals (vs ++ dvs) (us ++ ds) := r.append hd
  have ln : (us ++ ds).length = ps.length := by rw [← ra.length]; exact G.len _ _ _ _ h
  refine wpAny_call (codeAny_mono (G.run X.A X.stack t H ⟨us, []⟩ (us ++ ds) (vs ++ dvs) Q (E σ) hr I.env0 (hb t us I.kIn ln) ra h) fun r' t' hq => ?_)
  cases r' with
  | error y => exact hp pins H t y t' I hq
  | ok fl =>
    cases fl with
    | ret _ => exact I.after hq
    | _ => exact False.elim hq
theorem pe_sl {E : St → XK} {x : Str} {p pos : Pos} {ex : Expr} {es : List Expr} {ta : TA} (G : FnOk X.prog X.w X.K X.mg X.base CX k f fd ps sp) (hr : Room k X.A) (hg : Gl X x) (hm : X.mg x = some (.ref f)) (hk : PySem.W.keepIn X.K (.ref f) = true) (hb : Binds X.K fd ps ds) (hd : Vals dvs ds) (hp : ∀ σ, PassesAt CX X σ (E σ))
    (ha : PA X (ex :: es) ta) (hdb : (x == ("__debug__" : Str)) = false) (he : starEach (ex :: es) X.env = (false, eval ex X.env) :: starEach es X.env) (hpl : (backTo pos (starEach es X.env)).any (·.1) = false) :
    PE X (.Call (.Name x p) (ex :: es) [] pos) (tCallSD sp dvs E ta) := by
  refine ⟨fun pins t σ H Q I h => wpAny_Call_Name_kw (ld_glob I hg hm ?_ hdb)⟩
  refine PySem.W.callWith_K (h₀ := X.base) I.ok.mod.kin hk (thn (ha.run pos pins t σ H _ I h) fun us t1 ⟨vs, H1, I1, r, q⟩ => ?_) he hpl
  exact ⟨I1.kIn, run_sl G hr hb hd (hp σ) I1 r q⟩
end
/-- a def that keeps such a promise -/
abbrev DFn (P : Program) (w : World) (K : PySem.W.Frag) (mg : Str → Option Value) (base : Heap) (k : Nat) (f : Addr) (fd : FuncData) (ps : List Str) (F : M Val) : Prop := FnOk P w K mg base (L2.CX P w) k f fd ps (spD K F)
/-- the code object of the def at f -/
def CodeAt (K : PySem.W.Frag) (f : Addr) (cdv : Value) : Prop := ∃ oc od fd osl, K.lookup f = some ⟨oc, od, .func fd, osl⟩ ∧ fd.code = cdv
/-- THE RULE for a def: its body's meaning -/
theorem dfn_okC {P : Program} {w : World} {K : PySem.W.Frag} {mg : Str → Option Value} {base : Heap} {x qual : Str} {params : Arguments} {body : List Stmt} {scope : Scope} {dvs : List V} {kws : List (Str × V)} {f : Addr} {fd : FuncData} {N ps : List Str} {k : Nat} {b : SM}
    (F : FunD K x qual params body scope dvs kws f fd) (S : FnScope N ps scope) (hn : ps.length ≤ N.length)
    (hb : ∀ (cdv : Value) (A : Around) (outer : List PySem.Env) (s : Shared) (H : Hp) (E : XK), Room k (A.deeper (envOfC qual scope s.heap.objs.size f cdv)) → CodeAt K f cdv →
      DSs (cxOf (L2.CX P w) P w K mg base N qual scope f cdv A outer s H E) (fun c d _ H' => E c d H') ps.length body b) : DFn P w K mg base (k + 1) f fd ps (runF ps.length N.length b) :=
by
  obtain ⟨oc, od, dV, kV, doc, pm, an, cdv, ct, osl, rfl, lk, hcd, _, _⟩ := F.ex
  refine ⟨fun vs H Q E h => (run_le (W := fun _ _ _ _ => True) (fun _ _ _ _ _ => trivial) h hn).1, fun A outer t H args us vs Q E hr e0 bind r hsp => ?_⟩
  obtain ⟨lenV, started⟩ := run_le (W := fun c d _ H' => E c d H') (fun _ _ _ _ z => z) hsp hn
  have old : ∀ b o, base.get? b = some o → t.heap.get? b = some o := fun b o e => (e0.bs b o e).1
  have KX : K.In t.heap := e0.mod.kin.keeps old
  have limit : t.heap.NoLimit := e0.mod.nolimit.keeps old
  have kinds : ∀ y ∈ ps.zip us, scope.names.lookup y.1 = some .local ∨ (scope.names.lookup y.1 = some .cell ∧ ((cellsFrom (t.heap.objs.size + 1) scope.names []).lookup y.1).isSome = true) := fun ⟨n, v⟩ hy =>
    (S.par n (List.of_mem_zip hy).1).imp id fun q => ⟨q, PySem.W.cellsFrom_some _ _ _ (.inl q)⟩
  refine codeAny_call_function hr.depth (KX _ _ lk) rfl S.co S.gen rfl (PySem.W.codeRec_of KX hcd) (bind _ _ _ _ ?_)
  refine wpAny_newFunctionEnv_cells S.kind kinds fun env he t1 y => ?_
  subst he
  refine ⟨limit.keeps y.toInCall.keep, codeAny_func ?_⟩
  have ht := hb cdv A outer t H E (hr.deeper _) ⟨_, _, _, _, lk, rfl⟩
  have I : Inv (cxOf (L2.CX P w) P w K mg base N qual scope f cdv A outer t H E) [] (start N vs) H t1 := inv_start S hr.hd e0 lenV r y
  have started' : tDs K (fun c d _ H' => E c d H') ps.length b { nx := fun _ H' => Q .non H', rt := Q } (start N vs) H := by rw [start_eq, lenV]; exact started
  refine wpAny_mono (ht.pss.run [] t1 (start N vs) H _ I started') (fun fl t' hs => ?_) fun e t' hs => hs
  have last : ∀ {σ' : St} {H' : Hp} {v : V} {u : Value}, Inv (cxOf (L2.CX P w) P w K mg base N qual scope f cdv A outer t H E) [] σ' H' t' → RelV v u → Q v H' → CE outer P w H t Q u t' := fun {σ' H' v u} J rv q => ⟨v, H', J.os, J.bare, J.base, J.hok, rv, q⟩
  cases fl with
  | ret u =>
    obtain ⟨v, σ', H', J, rv, q⟩ := hs
    exact last J rv q
  | next =>
    obtain ⟨σ', H', J, q⟩ := hs
    exact last (v := V.non) (u := Value.none) J rfl q
  | brk => exact let ⟨_, _, _, q⟩ := hs; False.elim q
  | cont => exact let ⟨_, _, _, q⟩ := hs; False.elim q
theorem dfn_ok {P : Program} {w : World} {K : PySem.W.Frag} {mg : Str → Option Value} {base : Heap} {x qual : Str} {params : Arguments} {body : List Stmt} {scope : Scope} {dvs : List V} {kws : List (Str × V)} {f : Addr} {fd : FuncData} {N ps : List Str} {k : Nat} {b : SM}
    (F : FunD K x qual params body scope dvs kws f fd) (S : FnScope N ps scope) (hn : ps.length ≤ N.length)
    (hb : ∀ (cdv : Value) (A : Around) (outer : List PySem.Env) (s : Shared) (H : Hp) (E : XK), Room k (A.deeper (envOfC qual scope s.heap.objs.size f cdv)) →
      DSs (cxOf (L2.CX P w) P w K mg base N qual scope f cdv A outer s H E) (fun c d _ H' => E c d H') ps.length body b) : DFn P w K mg base (k + 1) f fd ps (runF ps.length N.length b) :=
  dfn_okC F S hn fun cdv A outer s H E hr _ => hb cdv A outer s H E hr

/-! ### calls -/
def isAt (i : Nat) (v : Val) : Bool := match v with
  | .at_ j => j == i
  | _ => false
def posOf (vs : List Val) (i : Nat) : Option Nat := vs.findIdx? (isAt i)
def nodupAt : List Val → Bool
  | [] => true
  | .at_ i :: vs => !(vs.any (isAt i)) && nodupAt vs
  | _ :: vs => nodupAt vs
def argS (e : Env) : Val → SV
  | .d x => .sh x
  | .at_ i => (match e[i]? with
    | some (.ow o) => .ow o
    | some (.lk o) => .lk o
    | _ => .no)
  | .new _ => .no
/-- own objects that were handed over, as they come back -/
def backS (vs : List Val) (args : Env) (e : Env) : Env := e.mapIdx fun i s => if isOw s = true then (match posOf vs i with
  | some p => (args[p]?).getD .no
  | none => s) else s
/-- a def's meaning, at argument values and defaults -/
def callV (F : M Val) (dfl : List D) (vs : List Val) : M Val := fun e => if nodupAt vs = true then (match F (vs.map (argS e) ++ dfl.map SV.sh) with
  | .ok (.at_ _) _ => .bad
  | .ok v a => .ok v (backS vs a e)
  | .er x a => .er x (backS vs a e)
  | .bad => .bad) else .bad
def dFn (F : M Val) (dfl : List D) (fs : M (List Val)) : M Val := M.bind fs (callV F dfl)
theorem nodup_pos : ∀ {vs : List Val} {p q i : Nat}, nodupAt vs = true → vs[p]? = some (.at_ i) → vs[q]? = some (.at_ i) → p = q
  | [], p, q, i, _, h, _ => by simp at h
  | v :: vs, p, q, i, n, h1, h2 => by
    have tl : nodupAt vs = true := by
      cases v with
      | at_ j => exact (Bool.and_eq_true_iff.mp n).2
      | d x => exact n
      | new o => exact n
    have no : ∀ (r : Nat), v = Val.at_ i → vs[r]? = some (Val.at_ i) → False := fun r e h => by
      subst e
      have z := (Bool.and_eq_true_iff.mp n).1
      have y : vs.any (isAt i) = true := List.any_eq_true.mpr ⟨_, List.mem_of_getElem? h, by simp [isAt]⟩
      rw [y] at z
      cases z
    cases p with
    | zero =>
      cases q with
      | zero => rfl
      | succ q =>
        rw [List.getElem?_cons_zero] at h1
        rw [List.getElem?_cons_succ] at h2
        exact (no q (Option.some.inj h1) h2).elim
    | succ p =>
      cases q with
      | zero =>
        rw [List.getElem?_cons_zero] at h2
        rw [List.getElem?_cons_succ] at h1
        exact (no p (Option.some.inj h2) h1).elim
      | succ q =>
        rw [List.getElem?_cons_succ] at h1 h2
        rw [nodup_pos tl h1 h2]
theorem posOf_some {vs : List Val} {i p : Nat} (h : posOf vs i = some p) : vs[p]? = some (.at_ i) := by
  unfold posOf at h
  obtain ⟨hp, h2, _⟩ := List.findIdx?_eq_some_iff_getElem.mp h
  rw [List.getElem?_eq_getElem hp]
  cases q : vs[p] with
  | at_ j =>
    rw [q] at h2
    have e : j = i := by simpa [isAt] using h2
    rw [e]
  | d x => rw [q] at h2; cases h2
  | new o => rw [q] at h2; cases h2
theorem posOf_none {vs : List Val} {i : Nat} (h : posOf vs i = none) (p : Nat) : vs[p]? ≠ some (.at_ i) := fun z => by
  unfold posOf at h
  have := List.findIdx?_eq_none_iff.mp h _ (List.mem_of_getElem? z)
  simp [isAt] at this
section
variable {K : PySem.W.Frag} {σ : St} {H0 H S : Hp} {e : Env}
theorem owf_ {t : SV} (ht : isOw t = true) : isHad t = true := by cases t <;> first | rfl | cases ht
theorem vsAt_get {vs : List Val} {ws : List V} : VsAt K σ H0 H S e vs ws → ∀ {p : Nat} {v : Val}, vs[p]? = some v → ∃ w, ws[p]? = some w ∧ VAt K σ H0 H S e v w := by
  intro h
  induction h with
  | nil => intro p v e; simp at e
  | cons a b ih =>
    intro p v e
    cases p with
    | zero =>
      rw [List.getElem?_cons_zero] at e
      cases e
      exact ⟨_, rfl, a⟩
    | succ p =>
      rw [List.getElem?_cons_succ] at e
      obtain ⟨w, h1, h2⟩ := ih e
      exact ⟨w, by rw [List.getElem?_cons_succ]; exact h1, h2⟩
/-- what a slot of the arguments is -/
theorem arg_get {vs : List Val} {ws dws : List V} {dfl : List D} (h : VsAt K σ H0 H S e vs ws) (hd : RepL K S dfl dws) {p : Nat} {s : SV} (hs : (vs.map (argS e) ++ dfl.map SV.sh)[p]? = some s) :
    (∃ d w, s = .sh d ∧ (ws ++ dws)[p]? = some w ∧ Rep K S d w) ∨ s = .no ∨ ∃ i w, vs[p]? = some (.at_ i) ∧ e[i]? = some s ∧ isHad s = true ∧ ws[p]? = some w ∧ σ[i]? = some (some w) := by
  have lw : vs.length = ws.length := Paired.length h
  by_cases hp : p < vs.length
  · rw [List.getElem?_append_left (by rw [List.length_map]; exact hp), List.getElem?_map] at hs
    cases q : vs[p]? with
    | none => rw [q] at hs; cases hs
    | some v =>
      rw [q] at hs
      have hs : argS e v = s := Option.some.inj hs
      obtain ⟨w, h1, h2⟩ := vsAt_get h q
      cases v with
      | d x =>
        subst hs
        exact .inl ⟨x, w, rfl, by rw [List.getElem?_append_left (by omega)]; exact h1, h2⟩
      | new o => subst hs; exact .inr (.inl rfl)
      | at_ i =>
        obtain ⟨t, k1, k2, k3⟩ := h2
        have hs : (match e[i]? with
          | some (.ow o) => SV.ow o
          | some (.lk o) => .lk o
          | _ => .no) = s := hs
        rw [k1] at hs
        cases t with
        | no => cases k2
        | sh d => cases k2
        | ow o => subst hs; exact .inr (.inr ⟨i, w, rfl, k1, rfl, h1, k3⟩)
        | lk o => subst hs; exact .inr (.inr ⟨i, w, rfl, k1, rfl, h1, k3⟩)
  · rw [List.getElem?_append_right (by rw [List.length_map]; omega), List.length_map, List.getElem?_map] at hs
    cases q : dfl[p - vs.length]? with
    | none => rw [q] at hs; cases hs
    | some d =>
      rw [q] at hs
      cases hs
      obtain ⟨w, h1, h2⟩ := hd.get q
      exact .inl ⟨d, w, rfl, by rw [List.getElem?_append_right (by omega), ← lw]; exact h1, h2⟩
theorem args_abs {vs : List Val} {ws dws : List V} {dfl : List D} (A : Abs K σ H S e) (nd : nodupAt vs = true) (h : VsAt K σ H0 H S e vs ws) (hd : RepL K S dfl dws) : Abs K ((ws ++ dws).map some) H S (vs.map (argS e) ++ dfl.map SV.sh) := by
  have lw : vs.length = ws.length := Paired.length h
  refine ⟨by simp [lw, hd.length], A.sub, fun p s hs => ?_, fun p q s t a h1 h2 o1 o2 x1 x2 => ?_, A.tab, A.nt, A.ot⟩
  · rcases arg_get h hd hs with ⟨d, w, rfl, k1, k2⟩ | rfl | ⟨i, w, k1, k2, k3, k4, k5⟩
    · exact ⟨w, by rw [List.getElem?_map, k1]; rfl, k2⟩
    · trivial
    · have z := A.at_ i s k2
      rw [k5] at z
      have x : ((ws ++ dws).map some)[p]? = some (some w) := by
        rw [List.getElem?_map, List.getElem?_append_left (List.getElem?_eq_some_iff.mp k4).1, k4]
        rfl
      rw [x]
      exact z
  · rcases arg_get h hd h1 with ⟨d, w, rfl, k1, k2⟩ | rfl | ⟨i, w, k1, k2, k3, k4, k5⟩
    · cases o1
    · cases o1
    · rcases arg_get h hd h2 with ⟨d, w, rfl, j1, j2⟩ | rfl | ⟨i', w', j1, j2, j3, j4, j5⟩
      · cases o2
      · cases o2
      · have y1 : w = .ref a := by
          rw [List.getElem?_map, List.getElem?_append_left (List.getElem?_eq_some_iff.mp k4).1, k4] at x1
          exact Option.some.inj (Option.some.inj x1)
        have y2 : w' = .ref a := by
          rw [List.getElem?_map, List.getElem?_append_left (List.getElem?_eq_some_iff.mp j4).1, j4] at x2
          exact Option.some.inj (Option.some.inj x2)
        subst y1
        subst y2
        have ei := A.ap i i' s t a k2 j2 o1 o2 k5 j5
        subst ei
        exact nodup_pos nd k1 j1
/-- who owns among the arguments owns here -/
theorem args_own {vs : List Val} {ws dws : List V} {dfl : List D} (h : VsAt K σ H0 H S e vs ws) (hd : RepL K S dfl dws) {b : Addr} (ho : Own 0 ((ws ++ dws).map some) (vs.map (argS e) ++ dfl.map SV.sh) b) : Own 0 σ e b := by
  obtain ⟨p, s, h0, h1, h2, h3⟩ := ho
  rcases arg_get h hd h1 with ⟨d, w, rfl, k1, k2⟩ | rfl | ⟨i, w, k1, k2, k3, k4, k5⟩
  · cases h2
  · cases h2
  · have y1 : w = .ref b := by
      rw [List.getElem?_map, List.getElem?_append_left (List.getElem?_eq_some_iff.mp k4).1, k4] at h3
      exact Option.some.inj (Option.some.inj h3)
    subst y1
    exact ⟨i, s, Nat.zero_le _, k2, h2, k5⟩
theorem back_get {vs : List Val} {args : Env} {i : Nat} {t : SV} (h : (backS vs args e)[i]? = some t) : ∃ s, e[i]? = some s ∧ ((isOw s = true ∧ ∃ p, posOf vs i = some p ∧ t = (args[p]?).getD .no) ∨ (t = s ∧ (isOw s = true → posOf vs i = none))) := by
  unfold backS at h
  rw [List.getElem?_mapIdx] at h
  cases q : e[i]? with
  | none => rw [q] at h; cases h
  | some s =>
    rw [q] at h
    have h : (if isOw s = true then (match posOf vs i with
      | some p => (args[p]?).getD .no
      | none => s) else s) = t := Option.some.inj h
    refine ⟨s, rfl, ?_⟩
    by_cases ho : isOw s = true
    · rw [if_pos ho] at h
      cases z : posOf vs i with
      | none => rw [z] at h; exact .inr ⟨h.symm, fun _ => rfl⟩
      | some p => rw [z] at h; exact .inl ⟨ho, p, rfl, h.symm⟩
    · rw [if_neg ho] at h
      exact .inr ⟨h.symm, fun w => (ho w).elim⟩
/-- behind the call -/
theorem back_abs {H' S' : Hp} {vs : List Val} {ws dws : List V} {dfl : List D} {a' : Env} (A : Abs K σ H S e) (nd : nodupAt vs = true) (h : VsAt K σ H0 H S e vs ws) (hd : RepL K S dfl dws)
    (A' : Abs K ((ws ++ dws).map some) H' S' a') (E' : Ext ((ws ++ dws).map some) (vs.map (argS e) ++ dfl.map SV.sh) H S ((ws ++ dws).map some) a' H' S') : Abs K σ H' S' (backS vs a' e) ∧ Ext σ e H S σ (backS vs a' e) H' S' := by
  -- a slot that was handed over
  have over : ∀ {i p : Nat} {s : SV}, e[i]? = some s → isOw s = true → posOf vs i = some p → ∃ w, ws[p]? = some w ∧ ((ws ++ dws).map some)[p]? = some (some w) ∧ σ[i]? = some (some w) := fun {i p s} h1 h2 h3 => by
    obtain ⟨w, k1, t, k2, k3, k4⟩ := vsAt_get h (posOf_some h3)
    exact ⟨w, k1, by rw [List.getElem?_map, List.getElem?_append_left (List.getElem?_eq_some_iff.mp k1).1, k1]; rfl, k4⟩
  have stay : ∀ {i : Nat} {s : SV} {b : Addr}, e[i]? = some s → isHad s = true → σ[i]? = some (some (V.ref b)) → (isOw s = true → posOf vs i = none) → ¬ Own 0 ((ws ++ dws).map some) (vs.map (argS e) ++ dfl.map SV.sh) b := fun {i s b} h1 h2 h3 h4 ho => by
    obtain ⟨p, t, _, k1, k2, k3⟩ := ho
    rcases arg_get h hd k1 with ⟨d, w, rfl, _, _⟩ | rfl | ⟨j, w, j1, j2, j3, j4, j5⟩
    · cases k2
    · cases k2
    · have y1 : w = .ref b := by
        rw [List.getElem?_map, List.getElem?_append_left (List.getElem?_eq_some_iff.mp j4).1, j4] at k3
        exact Option.some.inj (Option.some.inj k3)
      subst y1
      have ei := A.ap j i t s b j2 h1 (owf_ k2) h2 j5 h3
      subst ei
      rw [j2] at h1
      cases h1
      exact posOf_none (h4 k2) p j1
  have same : ∀ {i : Nat} {s : SV} {b : Addr}, e[i]? = some s → isHad s = true → σ[i]? = some (some (V.ref b)) → (isOw s = true → posOf vs i = none) → H' b = H b ∧ S' b = none := fun {i s b} h1 h2 h3 h4 => by
    obtain ⟨sb, u, hu, hm⟩ := A.had_thereM ⟨i, s, h1, h2, h3⟩
    obtain ⟨k1, k2⟩ := E'.fr b u hu (stay h1 h2 h3 h4) (mut_tab hm)
    exact ⟨k1.trans hu.symm, k2 hm sb⟩
  refine ⟨⟨by unfold backS; rw [List.length_mapIdx]; exact A.len, A'.sub, fun i t ht => ?_, fun i j s t b h1 h2 o1 o2 x1 x2 => ?_, A'.tab, A'.nt, A'.ot⟩, ⟨E'.sm, fun b o hb nb nt => E'.fr b o hb (fun q => nb (args_own h hd q)) nt, E'.tr, fun k b ⟨i, t, hk, ht, o1, hx⟩ => ?_, fun b ⟨i, t, ht, o1, hx⟩ => ?_, fun i t ht hk => ?_, E'.tb⟩⟩
  · obtain ⟨s, h1, ⟨ho, p, hp, rfl⟩ | ⟨rfl, hn⟩⟩ := back_get ht
    · obtain ⟨w, k1, k2, k3⟩ := over h1 ho hp
      cases q : a'[p]? with
      | none => rw [Option.getD_none]; trivial
      | some z =>
        rw [Option.getD_some]
        have y := A'.at_ p z q
        rw [k2] at y
        rw [k3]
        exact y
    · have y := A.at_ i t h1
      cases t with
      | no => trivial
      | sh d =>
        obtain ⟨v, k1, k2⟩ := y
        exact ⟨v, k1, k2.same E'.sm⟩
      | ow o =>
        obtain ⟨b, k1, k2, k3⟩ := y
        obtain ⟨j1, j2⟩ := same h1 rfl k1 hn
        exact ⟨b, k1, j2, k3.mono E'.sm j1⟩
      | lk o =>
        obtain ⟨b, k1, k2, k3⟩ := y
        obtain ⟨j1, j2⟩ := same h1 rfl k1 hn
        exact ⟨b, k1, j2, k3.mono E'.sm j1⟩
  · obtain ⟨s0, a1, c1⟩ := back_get h1
    obtain ⟨t0, a2, c2⟩ := back_get h2
    rcases c1 with ⟨ho, p, hp, e1⟩ | ⟨e1, hn⟩
    · rcases c2 with ⟨ho2, q, hq, e2⟩ | ⟨e2, hn2⟩
      · exact A.ap i j s0 t0 b a1 a2 (owf_ ho) (owf_ ho2) x1 x2
      · subst e2
        exact A.ap i j s0 t b a1 a2 (owf_ ho) o2 x1 x2
    · subst e1
      rcases c2 with ⟨ho2, q, hq, e2⟩ | ⟨e2, hn2⟩
      · exact A.ap i j s t0 b a1 a2 o1 (owf_ ho2) x1 x2
      · subst e2
        exact A.ap i j s t b a1 a2 o1 o2 x1 x2
  · obtain ⟨s0, a1, c1⟩ := back_get ht
    rcases c1 with ⟨ho, p, hp, e1⟩ | ⟨e1, hn⟩
    · exact .inl ⟨i, s0, hk, a1, ho, hx⟩
    · subst e1
      exact .inl ⟨i, t, hk, a1, o1, hx⟩
  · obtain ⟨s0, a1, c1⟩ := back_get ht
    rcases c1 with ⟨ho, p, hp, e1⟩ | ⟨e1, hn⟩
    · exact .inl ⟨i, s0, a1, owf_ ho, hx⟩
    · subst e1
      exact .inl ⟨i, t, a1, o1, hx⟩
  · obtain ⟨s0, a1, c1⟩ := back_get ht
    rcases c1 with ⟨ho, p, hp, e1⟩ | ⟨e1, hn⟩
    · cases y : a'[p]? with
      | none =>
        rw [y, Option.getD_none] at e1
        subst e1
        cases hk
      | some z =>
        rw [y, Option.getD_some] at e1
        subst e1
        obtain ⟨⟨t0, h1, h2⟩, _⟩ := E'.lk p t y hk
        have hp' := posOf_some hp
        have lt : p < vs.length := (List.getElem?_eq_some_iff.mp hp').1
        rw [List.getElem?_append_left (by rw [List.length_map]; exact lt), List.getElem?_map, hp'] at h1
        have h1 : (match e[i]? with
          | some (.ow o) => SV.ow o
          | some (.lk o) => .lk o
          | _ => .no) = t0 := Option.some.inj h1
        rw [a1] at h1
        cases s0 with
        | ow o => subst h1; cases h2
        | no => cases ho
        | sh d => cases ho
        | lk o => cases ho
    · subst e1
      exact ⟨⟨t, a1, hk⟩, rfl⟩
theorem call_spD {W : WX} {S0 : Hp} {e0 : Env} {F : M Val} {vs : List Val} {ws dws : List V} {dfl : List D} {Q : VK} (A : Abs K σ H S e) (E : Ext σ e0 H0 S0 σ e H S) (h : VsAt K σ H0 H S e vs ws) (hd : RepL K S dfl dws)
    (g : Goal K W σ H0 S0 e0 (vAt K σ H0) (callV F dfl vs e) Q) : spD K F (ws ++ dws) H Q (fun c d H' => W c d σ H') := by
  unfold callV at g
  by_cases nd : nodupAt vs = true
  · rw [if_pos nd] at g
    refine ⟨S, _, args_abs A nd h hd, ?_⟩
    cases q : F (vs.map (argS e) ++ dfl.map SV.sh) with
    | ok v a =>
      rw [q] at g
      cases v with
      | at_ i => exact g.elim
      | d x =>
        intro H' S' w A' E' hv
        obtain ⟨A2, E2⟩ := back_abs A nd h hd A' E'
        exact g H' S' w A2 (E.trans E2) hv
      | new o =>
        intro H' S' w A' E' hv
        obtain ⟨A2, E2⟩ := back_abs A nd h hd A' E'
        obtain ⟨b, rfl, k2, k3, k4, k5⟩ := hv
        refine g H' S' _ A2 (E.trans E2) ⟨b, rfl, k2, k3, fun z => ?_, E.tr b k5⟩
        obtain ⟨i, t, ht, o1, hx⟩ := z
        obtain ⟨s0, a1, c1⟩ := back_get ht
        rcases c1 with ⟨ho, p, hp, e1⟩ | ⟨e1, hn⟩
        · obtain ⟨w', j1, u, j2, j3, j4⟩ := vsAt_get h (posOf_some hp)
          rw [hx] at j4
          cases j4
          cases y : a[p]? with
          | none =>
            rw [y, Option.getD_none] at e1
            subst e1
            cases o1
          | some y2 =>
            rw [y, Option.getD_some] at e1
            subst e1
            exact k4 ⟨p, t, y, o1, by rw [List.getElem?_map, List.getElem?_append_left (List.getElem?_eq_some_iff.mp j1).1, j1]; rfl⟩
        · subst e1
          obtain ⟨_, u, hu⟩ := A.had_there ⟨i, t, a1, o1, hx⟩
          rw [k5] at hu
          cases hu
    | er x a =>
      rw [q] at g
      intro H' S' c d A' E' hx
      obtain ⟨A2, E2⟩ := back_abs A nd h hd A' E'
      exact g H' S' c d A2 (E.trans E2) hx
    | bad => rw [q] at g; exact g.elim
  · rw [if_neg nd] at g; exact g.elim
end
section
variable {X : Cx} {W : WX} {pos p : Pos} {ex : Expr} {es : List Expr} {fs : M (List Val)} {F : M Val} {x : Str} {k : Nat} {f : Addr} {fd : FuncData} {ps : List Str} {dvs : List V} {ds : List Value} {dfl : List D}
/-- f(..) -/
theorem de_call (G : DFn X.prog X.w X.K X.mg X.base k f fd ps F) (hr : Room k X.A) (hg : Gl X x) (hm : X.mg x = some (.ref f)) (hk : PySem.W.keepIn X.K (.ref f) = true) (hb : Binds X.K fd ps ds) (hd : Vals dvs ds) (hdd : ∀ S, RepL X.K S dfl dvs) (tk : Takes X W)
    (ha : DA X W (ex :: es) fs) (hdb : (x == ("__debug__" : Str)) = false := by decide) (he : starEach (ex :: es) X.env = (false, eval ex X.env) :: starEach es X.env := by rfl) (hpl : (backTo pos (starEach es X.env)).any (·.1) = false := by rfl) :
    DE X W (.Call (.Name x p) (ex :: es) [] pos) (dFn F dfl fs) :=
  ⟨PE.weak (pe_sl (E := fun σ c d H' => W c d σ H') G hr hg hm hk hb hd (fun σ => passAt tk σ) ha.pa hdb he hpl) fun σ H Q ⟨S, e, A, g⟩ => by
    refine tDx.step A Ext.refl g fun vs e1 H1 S1 ws A1 E1 _ v1 g1 => ?_
    exact call_spD A1 E1 v1 (hdd S1) g1⟩
end
end DL

set_option maxHeartbeats 4000000
/-! DL8: targets, for, while. -/
namespace DL
open PySem PySem.Spec PyProof.Rows L2
variable [TabsT]

/-! ### tuples that stand in the heap join what never changes -/
theorem tup_join {K : PySem.W.Frag} {σ : St} {H S : Hp} {e : Env} {b : Addr} {vs : List V} (A : Abs K σ H S e) (hb : H b = some (.tup vs)) : ∃ S', Abs K σ H S' e ∧ Ext σ e H S σ e H S' ∧ S' b = some (.tup vs) := by
  cases q : S b with
  | some u =>
    have z := A.sub b u q
    rw [hb] at z
    exact ⟨S, A, Ext.refl, by rw [q, ← z]⟩
  | none =>
    have not : ∀ (a : Addr) (o : O), ORep K H S a o → a ≠ b := fun a o r z => by
      obtain ⟨u, hu, hm⟩ := r.thereM
      rw [z, hb] at hu
      cases hu
      cases hm
    have sm := same_upd (o := HO.tup vs) q
    refine ⟨upd S b (.tup vs), ⟨A.len, fun c u hc => ?_, fun i s hs => ?_, A.ap, A.tab, nt_upd A.nt rfl, A.ot⟩, ⟨sm, fun c u hc _ _ => ⟨hc, fun m z => ?_⟩, fun _ h => h, fun _ _ h => .inl h, fun _ h => .inl h, fun i s h k => ⟨⟨s, h, k⟩, rfl⟩, id⟩, upd_same⟩
    · by_cases z : c = b
      · subst z; rw [upd_same] at hc; cases hc; exact hb
      · rw [upd_ne z] at hc; exact A.sub c u hc
    · have k := A.at_ i s hs
      cases s with
      | no => trivial
      | sh d => exact let ⟨v, h1, h2⟩ := k; ⟨v, h1, h2.same sm⟩
      | ow o => exact let ⟨a, h1, h2, h3⟩ := k; ⟨a, h1, by rw [upd_ne (not a o h3)]; exact h2, h3.mono sm rfl⟩
      | lk o => exact let ⟨a, h1, h2, h3⟩ := k; ⟨a, h1, by rw [upd_ne (not a o h3)]; exact h2, h3.mono sm rfl⟩
    · rw [upd_ne]
      · exact z
      · intro y
        rw [y, hb] at hc
        cases hc
        cases m
/-! ### what is walked -/
def YRep (K : PySem.W.Frag) (S0 : Hp) (d : D) (x : V) (H H' : Hp) : Prop :=
  (H' = H ∧ Rep K S0 d x) ∨ (∃ p vs its, H p = none ∧ H' = upd H p (.tup vs) ∧ x = .ref p ∧ d = .tup its ∧ RepL K S0 its vs) ∨ (H' = H ∧ ∃ p vs its, H p = some (.tup vs) ∧ x = .ref p ∧ d = .tup its ∧ RepL K S0 its vs)
    ∨ (∃ p q vs its d1 u1, H p = none ∧ upd H p (.tup vs) q = none ∧ H' = upd (upd H p (.tup vs)) q (.tup [u1, .ref p]) ∧ x = .ref q ∧ d = .tup [d1, .tup its] ∧ Rep K S0 d1 u1 ∧ RepL K S0 its vs)
/-- behind a yield -/
theorem yield_abs {K : PySem.W.Frag} {σ : St} {H H' S S0 : Hp} {e : Env} {d : D} {x : V} (A : Abs K σ H S e) (sm : Same S0 S) (hy : YRep K S0 d x H H') : ∃ S2, Abs K σ H' S2 e ∧ Ext σ e H S σ e H' S2 ∧ Rep K S2 d x := by
  rcases hy with ⟨rfl, r⟩ | ⟨p, vs, its, hp, rfl, rfl, rfl, r⟩ | ⟨rfl, p, vs, its, hp, rfl, rfl, r⟩ | ⟨p, q, vs, its, d1, u1, hp, hq, rfl, rfl, rfl, r1, r⟩
  · exact ⟨S, A, Ext.refl, r.same sm⟩
  · exact ⟨_, abs_newS A hp, ext_newS A hp, rep_tupS.mpr ⟨p, vs, rfl, upd_same, r.same (sm.trans (same_upd (A.sub.free hp)))⟩⟩
  · obtain ⟨S', A2, E2, h2⟩ := tup_join A hp
    exact ⟨S', A2, E2, rep_tupS.mpr ⟨p, vs, rfl, h2, r.same (sm.trans E2.sm)⟩⟩
  · have A1 := abs_newS (o := .tup vs) A hp
    have E1 := ext_newS (o := .tup vs) A hp
    have s1 : Same S0 (upd S p (.tup vs)) := sm.trans (same_upd (A.sub.free hp))
    have s2 : Same (upd S p (.tup vs)) (upd (upd S p (.tup vs)) q (.tup [u1, .ref p])) := same_upd (A1.sub.free hq)
    exact ⟨_, abs_newS A1 hq, E1.trans (ext_newS A1 hq), rep_tupS.mpr ⟨q, _, rfl, upd_same, .cons (r1.same (s1.trans s2)) (.cons (rep_tupS.mpr ⟨p, vs, rfl, s2 _ _ upd_same, r.same (s1.trans s2)⟩) .nil)⟩⟩
def JRep (K : PySem.W.Frag) (J : It) (ds : List D) (L : List (Addr × HO)) (S0 : Hp) : Prop :=
  Walk J ds.length (fun H => (∀ p ∈ L, H p.1 = some p.2) ∧ Same S0 H) fun i H x H' => ∀ d, ds[i]? = some d → YRep K S0 d x H H'
/-- the items, and the slot whose list they are (if it is one's) -/
def iAt (K : PySem.W.Frag) (σ : St) (H0 : Hp) (p : List D × Option Nat) (H S : Hp) (e : Env) (J : It) : Prop :=
  ∃ L, JRep K J p.1 L S ∧ ∀ q ∈ L, H q.1 = some q.2 ∧ ∃ (i : Nat) (s : SV), p.2 = some i ∧ e[i]? = some s ∧ isHad s = true ∧ σ[i]? = some (some (V.ref q.1))
structure DI (X : Cx) (W : WX) (tg iter : Expr) (f : M (List D × Option Nat)) : Prop where
  pi : PI X tg iter (tDx X.K W (iAt X.K) f)
theorem PI.weak {X : Cx} {tg e : Expr} {t t' : TI} (h : PI X tg e t) (k : ∀ σ H Q, t' σ H Q → t σ H Q) : PI X tg e t' := ⟨fun pins s σ H Q I q => h.run pins s σ H Q I (k σ H Q q)⟩
theorem PI.or {X : Cx} {tg e : Expr} {t t' : TI} (h : PI X tg e t) (h' : PI X tg e t') : PI X tg e (fun σ H R => t σ H R ∨ t' σ H R) := ⟨fun pins s σ H Q I q => q.elim (h.run pins s σ H Q I) (h'.run pins s σ H Q I)⟩
def lockS (src : Option Nat) (e : Env) : Env := match src with
  | some i => (match e[i]? with
    | some (.ow o) => e.set i (.lk o)
    | _ => e)
  | none => e
def didLock (src : Option Nat) (e : Env) : Option Nat := match src with
  | some i => (match e[i]? with
    | some (.ow _) => some i
    | _ => none)
  | none => none
def unlk (u : Option Nat) (e : Env) : Env := match u with
  | some i => (match e[i]? with
    | some (.lk o) => e.set i (.ow o)
    | _ => e)
  | none => e
def SO.mapE (f : Env → Env) : SO → SO
  | .nx e => .nx (f e)
  | .bk e => .bk (f e)
  | .ct e => .ct (f e)
  | .rt v e => .rt v (f e)
  | .er x e => .er x (f e)
  | .bad => .bad
section
variable {K : PySem.W.Frag} {σ : St} {H S : Hp} {e : Env}
theorem set_had {i : Nat} {s t : SV} (hi : e[i]? = some s) (hh : isHad t = isHad s) : ∀ (j : Nat) (r : SV), (e.set i t)[j]? = some r → ∃ r', e[j]? = some r' ∧ isHad r' = isHad r ∧ (j ≠ i → r' = r) := fun j r h => by
  have hl : i < e.length := (List.getElem?_eq_some_iff.mp hi).1
  by_cases hj : i = j
  · subst hj
    rw [List.getElem?_set_self hl] at h
    cases h
    exact ⟨s, hi, hh.symm, fun z => (z rfl).elim⟩
  · rw [List.getElem?_set_ne hj] at h
    exact ⟨r, h, rfl, fun _ => rfl⟩
/-- an own object taken for one that is read, or back -/
theorem abs_turn {i : Nat} {o : O} {s t : SV} (A : Abs K σ H S e) (hi : e[i]? = some s) (hs : s = .ow o ∧ t = .lk o ∨ s = .lk o ∧ t = .ow o) : Abs K σ H S (e.set i t) := by
  have hl : i < e.length := (List.getElem?_eq_some_iff.mp hi).1
  have hh : isHad t = isHad s := by rcases hs with ⟨rfl, rfl⟩ | ⟨rfl, rfl⟩ <;> rfl
  refine ⟨by rw [List.length_set]; exact A.len, A.sub, fun j r h => ?_, fun j1 j2 t1 t2 a h1 h2 o1 o2 x1 x2 => ?_, A.tab, A.nt, A.ot⟩
  · by_cases hj : i = j
    · subst hj
      rw [List.getElem?_set_self hl] at h
      cases h
      have k := A.at_ i s hi
      rcases hs with ⟨rfl, rfl⟩ | ⟨rfl, rfl⟩ <;> exact k
    · rw [List.getElem?_set_ne hj] at h
      exact A.at_ j r h
  · obtain ⟨r1, a1, b1, _⟩ := set_had hi hh j1 t1 h1
    obtain ⟨r2, a2, b2, _⟩ := set_had hi hh j2 t2 h2
    exact A.ap j1 j2 r1 r2 a a1 a2 (b1.trans o1) (b2.trans o2) x1 x2
theorem lock_abs {src : Option Nat} (A : Abs K σ H S e) : Abs K σ H S (lockS src e) := by
  unfold lockS
  cases src with
  | none => exact A
  | some i =>
    simp only
    cases q : e[i]? with
    | none => exact A
    | some s =>
      cases s with
      | ow o => exact abs_turn A q (.inl ⟨rfl, rfl⟩)
      | no => exact A
      | sh d => exact A
      | lk o => exact A
/-- the end of what ran under the lock -/
theorem unlock_ok {src : Option Nat} {σ' : St} {H' S' : Hp} {e' : Env} (A : Abs K σ H S e) (A' : Abs K σ' H' S' e') (E : Ext σ (lockS src e) H S σ' e' H' S') : Abs K σ' H' S' (unlk (didLock src e) e') ∧ Ext σ e H S σ' (unlk (didLock src e) e') H' S' := by
  cases src with
  | none => exact ⟨A', E⟩
  | some i =>
    cases q : e[i]? with
    | none =>
      have e1 : lockS (some i) e = e := by unfold lockS; simp only [q]
      have e2 : didLock (some i) e = none := by unfold didLock; simp only [q]
      rw [e1] at E
      rw [e2]
      exact ⟨A', E⟩
    | some s =>
      cases s with
      | no =>
        have e1 : lockS (some i) e = e := by unfold lockS; simp only [q]
        have e2 : didLock (some i) e = none := by unfold didLock; simp only [q]
        rw [e1] at E
        rw [e2]
        exact ⟨A', E⟩
      | sh d =>
        have e1 : lockS (some i) e = e := by unfold lockS; simp only [q]
        have e2 : didLock (some i) e = none := by unfold didLock; simp only [q]
        rw [e1] at E
        rw [e2]
        exact ⟨A', E⟩
      | lk o =>
        have e1 : lockS (some i) e = e := by unfold lockS; simp only [q]
        have e2 : didLock (some i) e = none := by unfold didLock; simp only [q]
        rw [e1] at E
        rw [e2]
        exact ⟨A', E⟩
      | ow o =>
        have e1 : lockS (some i) e = e.set i (.lk o) := by unfold lockS; simp only [q]
        have e2 : didLock (some i) e = some i := by unfold didLock; simp only [q]
        rw [e1] at E
        rw [e2]
        have hl : i < e.length := (List.getElem?_eq_some_iff.mp q).1
        obtain ⟨a, ha, sa, ra⟩ := A.at_ i _ q
        have old : ∀ (j : Nat) (t : SV), (e.set i (.lk o))[j]? = some t → ∃ r, e[j]? = some r ∧ isHad r = isHad t ∧ (isOw t = true → isOw r = true) ∧ (j ≠ i → r = t) := fun j t h => by
          obtain ⟨r, h1, h2, h3⟩ := set_had (t := .lk o) q rfl j t h
          refine ⟨r, h1, h2, fun ho => ?_, h3⟩
          by_cases hj : j = i
          · subst hj
            rw [List.getElem?_set_self hl] at h
            cases h
            cases ho
          · rw [h3 hj]; exact ho
        have ownB : ∀ k b, Own k σ (e.set i (.lk o)) b → Own k σ e b := fun k b ⟨j, t, h0, h1, h2, h3⟩ => by
          obtain ⟨r, k1, _, k2, _⟩ := old j t h1
          exact ⟨j, r, h0, k1, k2 h2, h3⟩
        have hadB : ∀ b, Had σ (e.set i (.lk o)) b → Had σ e b := fun b ⟨j, t, h1, h2, h3⟩ => by
          obtain ⟨r, k1, k2, _, _⟩ := old j t h1
          exact ⟨j, r, k1, k2.trans h2, h3⟩
        have lkB : ∀ (j : Nat) (t : SV), j ≠ i → e'[j]? = some t → isLk t = true → (∃ t', e[j]? = some t' ∧ isLk t' = true) ∧ σ'[j]? = σ[j]? := fun j t hj h1 h2 => by
          obtain ⟨⟨t', k1, k2⟩, k3⟩ := E.lk j t h1 h2
          rw [List.getElem?_set_ne (Ne.symm hj)] at k1
          exact ⟨⟨t', k1, k2⟩, k3⟩
        cases q' : e'[i]? with
        | none =>
          have e3 : unlk (some i) e' = e' := by unfold unlk; simp only [q']
          rw [e3]
          refine ⟨A', E.sm, fun b o hb nb nt => E.fr b o hb (fun z => nb (ownB 0 b z)) nt, E.tr, fun k b h => (E.ow k b h).imp (ownB k b) id, fun b h => (E.hd b h).imp (hadB b) id, fun j t h1 h2 => lkB j t (fun z => ?_) h1 h2, E.tb⟩
          rw [z, q'] at h1
          cases h1
        | some s' =>
          by_cases hk : isLk s' = true
          · cases s' with
            | lk o' =>
              have e3 : unlk (some i) e' = e'.set i (.ow o') := by unfold unlk; simp only [q']
              rw [e3]
              have hl' : i < e'.length := (List.getElem?_eq_some_iff.mp q').1
              obtain ⟨_, hσ⟩ := E.lk i _ q' rfl
              have new : ∀ (j : Nat) (t : SV), (e'.set i (.ow o'))[j]? = some t → (j = i ∧ t = .ow o') ∨ (j ≠ i ∧ e'[j]? = some t) := fun j t h => by
                by_cases hj : i = j
                · subst hj
                  rw [List.getElem?_set_self hl'] at h
                  cases h
                  exact .inl ⟨rfl, rfl⟩
                · rw [List.getElem?_set_ne hj] at h
                  exact .inr ⟨Ne.symm hj, h⟩
              refine ⟨abs_turn A' q' (.inr ⟨rfl, rfl⟩), E.sm, fun b o hb nb nt => E.fr b o hb (fun z => nb (ownB 0 b z)) nt, E.tr, fun k b ⟨j, t, h0, h1, h2, h3⟩ => ?_, fun b ⟨j, t, h1, h2, h3⟩ => ?_, fun j t h1 h2 => ?_, E.tb⟩
              · rcases new j t h1 with ⟨rfl, rfl⟩ | ⟨hj, h1⟩
                · rw [hσ, ha] at h3
                  cases h3
                  exact .inl ⟨j, _, h0, q, rfl, ha⟩
                · exact (E.ow k b ⟨j, t, h0, h1, h2, h3⟩).imp (ownB k b) id
              · rcases new j t h1 with ⟨rfl, rfl⟩ | ⟨hj, h1⟩
                · rw [hσ, ha] at h3
                  cases h3
                  exact .inl ⟨j, _, q, rfl, ha⟩
                · exact (E.hd b ⟨j, t, h1, h2, h3⟩).imp (hadB b) id
              · rcases new j t h1 with ⟨rfl, rfl⟩ | ⟨hj, h1⟩
                · cases h2
                · exact lkB j t hj h1 h2
            | _ => cases hk
          · have e3 : unlk (some i) e' = e' := by
              unfold unlk
              simp only [q']
              cases s' <;> first | rfl | exact (hk rfl).elim
            rw [e3]
            refine ⟨A', E.sm, fun b o hb nb nt => E.fr b o hb (fun z => nb (ownB 0 b z)) nt, E.tr, fun k b h => (E.ow k b h).imp (ownB k b) id, fun b h => (E.hd b h).imp (hadB b) id, fun j t h1 h2 => lkB j t (fun z => ?_) h1 h2, E.tb⟩
            rw [z, q'] at h1
            cases h1
            exact hk h2
theorem had_unlk {u : Option Nat} {b : Addr} (h : Had σ (unlk u e) b) : Had σ e b := by
  cases u with
  | none => exact h
  | some i =>
    unfold unlk at h
    simp only at h
    cases q : e[i]? with
    | none => simp only [q] at h; exact h
    | some s =>
      cases s with
      | lk o =>
        simp only [q] at h
        obtain ⟨j, t, h1, h2, h3⟩ := h
        obtain ⟨r, k1, k2, _⟩ := set_had (t := .ow o) q rfl j t h1
        exact ⟨j, r, k1, k2.trans h2, h3⟩
      | no => simp only [q] at h; exact h
      | sh d => simp only [q] at h; exact h
      | ow o => simp only [q] at h; exact h
theorem own_lock {src : Option Nat} {k : Nat} {b : Addr} (h : Own k σ (lockS src e) b) : Own k σ e b := by
  cases src with
  | none => exact h
  | some i =>
    unfold lockS at h
    simp only at h
    cases q : e[i]? with
    | none => simp only [q] at h; exact h
    | some s =>
      cases s with
      | ow o =>
        simp only [q] at h
        obtain ⟨j, t, h0, h1, h2, h3⟩ := h
        obtain ⟨r, k1, k2, k3⟩ := set_had (t := .lk o) q rfl j t h1
        by_cases hj : j = i
        · subst hj
          rw [List.getElem?_set_self (List.getElem?_eq_some_iff.mp q).1] at h1
          cases h1
          cases h2
        · rw [k3 hj] at k1
          exact ⟨j, t, h0, k1, h2, h3⟩
      | no => simp only [q] at h; exact h
      | sh d => simp only [q] at h; exact h
      | lk o => simp only [q] at h; exact h
theorem unlock_goal {W : WX} {np : Nat} {src : Option Nat} {r : SO} {D : Ends} (A : Abs K σ H S e) (g : SGoal K W np σ H S e (r.mapE (unlk (didLock src e))) D) : SGoal K W np σ H S (lockS src e) r D := by
  cases r with
  | nx e' => exact fun σ' H' S' A' E' P' => let ⟨A2, E2⟩ := unlock_ok A A' E'; g σ' H' S' A2 E2 P'
  | bk e' => exact fun σ' H' S' A' E' P' => let ⟨A2, E2⟩ := unlock_ok A A' E'; g σ' H' S' A2 E2 P'
  | ct e' => exact fun σ' H' S' A' E' P' => let ⟨A2, E2⟩ := unlock_ok A A' E'; g σ' H' S' A2 E2 P'
  | er x e' => exact fun σ' H' S' c d A' E' P' hx => let ⟨A2, E2⟩ := unlock_ok A A' E'; g σ' H' S' c d A2 E2 P' hx
  | bad => exact g
  | rt v e' =>
    exact fun σ' H' S' w A' E' P' hv => by
      obtain ⟨A2, E2⟩ := unlock_ok A A' E'
      refine g σ' H' S' w A2 E2 P' ?_
      cases v with
      | d x => exact hv
      | at_ i => exact hv
      | new o =>
        obtain ⟨a, k1, k2, k3, k4, k5⟩ := hv
        exact ⟨a, k1, k2, k3, fun z => k4 (had_unlk z), k5.imp id own_lock⟩
end

/-! ### targets -/
abbrev TF := D → Env → Option Env
/-- some slots stay -/
def PrP (p : Nat → Bool) (σ σ' : St) : Prop := σ'.length = σ.length ∧ ∀ j, p j = true → σ'[j]? = σ[j]?
theorem PrP.refl {p : Nat → Bool} {σ : St} : PrP p σ σ := ⟨rfl, fun _ _ => rfl⟩
theorem PrP.trans {p : Nat → Bool} {a b c : St} (h : PrP p a b) (k : PrP p b c) : PrP p a c := ⟨k.1.trans h.1, fun j hj => (k.2 j hj).trans (h.2 j hj)⟩
def below (np : Nat) : Nat → Bool := fun j => Nat.blt j np
theorem PrP.pr {np : Nat} {σ σ' : St} (h : PrP (below np) σ σ') : Pr np σ σ' := fun j hj => h.2 j (by unfold below; exact Nat.ble_eq_true_of_le hj)
theorem prp_set {p : Nat → Bool} {i : Nat} {σ : St} {w : V} (h : p i = false) : PrP p σ (σ.set i (some w)) := ⟨List.length_set, fun j hj => by rw [List.getElem?_set_ne (fun z => by rw [← z, h] at hj; cases hj)]⟩
def tDG (K : PySem.W.Frag) (p : Nat → Bool) (g : TF) : TG := fun v σ H Q => ∃ S e d e', Abs K σ H S e ∧ Rep K S d v ∧ g d e = some e' ∧ ∀ σ', Abs K σ' H S e' → Ext σ e H S σ' e' H S → PrP p σ σ' → Q σ' H
structure DG (X : Cx) (p : Nat → Bool) (tg : Expr) (g : TF) : Prop where
  pg : PG X tg (tDG X.K p g)
theorem PG.weak {X : Cx} {e : Expr} {t t' : TG} (h : PG X e t) (k : ∀ v σ H Q, t' v σ H Q → t v σ H Q) : PG X e t' := ⟨fun pins s σ H v u Q I r q => h.run pins s σ H v u Q I r (k v σ H Q q)⟩
theorem PG.or {X : Cx} {e : Expr} {t t' : TG} (h : PG X e t) (h' : PG X e t') : PG X e (fun v σ H Q => t v σ H Q ∨ t' v σ H Q) := ⟨fun pins s σ H v u Q I r q => q.elim (h.run pins s σ H v u Q I r) (h'.run pins s σ H v u Q I r)⟩
def gN (i : Nat) : TF := fun d e => some (e.set i (.sh d))
def tDGs (K : PySem.W.Frag) (p : Nat → Bool) (gs : List TF) : TGs := fun vs σ H Q => ∃ S e ds e', Abs K σ H S e ∧ RepL K S ds vs ∧ ds.length = gs.length ∧ ((gs.zip ds).foldlM (fun e p => p.1 p.2 e) e : Option Env) = some e' ∧ ∀ σ', Abs K σ' H S e' → Ext σ e H S σ' e' H S → PrP p σ σ' → Q σ' H
structure DGs (X : Cx) (p : Nat → Bool) (ts : List Expr) (gs : List TF) : Prop where
  pgs : PGs X ts (tDGs X.K p gs)
theorem PGs.weak {X : Cx} {e : List Expr} {t t' : TGs} (h : PGs X e t) (k : ∀ v σ H Q, t' v σ H Q → t v σ H Q) : PGs X e t' := ⟨fun pins s σ H v u Q I r q => h.run pins s σ H v u Q I r (k v σ H Q q)⟩
def gT (gs : List TF) : TF := fun d e => if isSeq d = true ∧ (itsD d).length = gs.length then (gs.zip (itsD d)).foldlM (fun e p => p.1 p.2 e) e else none
section
variable {X : Cx} {p : Nat → Bool} {pos : Pos} {W : WX}
theorem dg_name {i : Nat} {x : Str} (hi : p i = false) (hN : X.N.Nodup) (hx : X.N[i]? = some x) (hl : Loc X.env.scope x) (hf : X.fn x = true ∨ X.env.scope.names.lookup x = some .local := by first | exact .inl rfl | exact .inr rfl | assumption) : DG X p (.Name x pos) (gN i) :=
  ⟨PG.weak (pg_name hN hx hl hf) fun v σ H Q ⟨S, e, d, e', A, r, hg, k⟩ => by
    cases hg
    obtain ⟨A1, E1⟩ := set_abs (H0 := H) (i := i) (s := .sh d) (w := v) A ⟨v, rfl, r⟩ rfl (fun a z => by cases z) (fun a z => by cases z)
    exact k _ A1 (E1 Ext.refl) (prp_set hi)⟩
theorem dgs_nil : DGs X p [] [] := ⟨PGs.weak pgs_nil fun vs σ H Q ⟨S, e, ds, e', A, r, hl, hg, k⟩ => by
  have e1 : ds = [] := List.eq_nil_of_length_eq_zero hl
  subst e1
  rw [repL_nil] at r
  have hg : some e = some e' := hg
  cases hg
  exact ⟨r, k σ A Ext.refl PrP.refl⟩⟩
theorem dgs_cons {t : Expr} {ts : List Expr} {g : TF} {gs : List TF} (h1 : DG X p t g) (h2 : DGs X p ts gs) (hs : (assignEach (t :: ts) X.env).map (·.2) = assign t X.env :: (assignEach ts X.env).map (·.2) := by rfl) : DGs X p (t :: ts) (g :: gs) :=
  ⟨PGs.weak (pgs_cons h1.pg h2.pgs hs) fun vs σ H Q ⟨S, e, ds, e', A, r, hl, hg, k⟩ => by
    cases ds with
    | nil => cases hl
    | cons d ds =>
      obtain ⟨v, us, rfl, r1, r2⟩ := repL_cons.mp r
      rw [List.zip_cons_cons, List.foldlM_cons] at hg
      cases q : g d e with
      | none => simp only [q] at hg; cases hg
      | some e1 =>
        simp only [q] at hg
        refine ⟨v, us, rfl, S, e, d, e1, A, r1, q, fun σ1 A1 E1 P1 => ?_⟩
        exact ⟨S, e1, ds, e', A1, r2, by simpa using hl, hg, fun σ2 A2 E2 P2 => k σ2 A2 (E1.trans E2) (P1.trans P2)⟩⟩
theorem dg_tup {es : List Expr} {kk : Nat} {gs : List TF} {n : Nat} (hc : X.calm = true) (h : DGs X p es gs) (hgn : gs.length = n) (hn : (assignEach es X.env).length = n := by rfl) (hst : (assignEach es X.env).findIdx? (·.1) = none := by rfl) : DG X p (.Tuple es kk pos) (gT gs) :=
  ⟨PG.weak (PG.or (pg_tup hc h.pgs hn hst) (pg_lst hc h.pgs hn hst)) fun v σ H Q ⟨S, e, d, e', A, r, hg, k⟩ => by
    unfold gT at hg
    by_cases hz : isSeq d = true ∧ (itsD d).length = gs.length
    · rw [if_pos hz] at hg
      cases d with
      | tup xs =>
        obtain ⟨a, vs, rfl, k1, k2⟩ := rep_tupQ r
        exact .inl ⟨a, vs, rfl, sqT_same A.sub k1, by rw [← k2.length, ← hgn]; exact hz.2, S, e, xs, e', A, k2, hz.2, hg, k⟩
      | lst xs =>
        obtain ⟨a, vs, rfl, k1, k2⟩ := rep_lst.mp r
        exact .inr ⟨a, vs, rfl, .of (A.sub _ _ k1), by rw [← k2.length, ← hgn]; exact hz.2, S, e, xs, e', A, k2, hz.2, hg, k⟩
      | rol xs =>
        obtain ⟨a, vs, rfl, k1, k2⟩ := rep_rol.mp r
        exact .inr ⟨a, vs, rfl, sqL_same A.sub k1, by rw [← k2.length, ← hgn]; exact hz.2, S, e, xs, e', A, k2, hz.2, hg, k⟩
      | _ => cases hz.1
    · rw [if_neg hz] at hg; cases hg⟩
end
end DL

set_option maxHeartbeats 4000000
/-! DL9: assignments to targets, for, while. -/
namespace DL
open PySem PySem.Spec PyProof.Rows L2
variable [TabsT]

/-- data to a target -/
def sTgt (g : TF) (d : D) : SM := fun e => match g d e with
  | some e' => .nx e'
  | none => .bad
def sAsg (g : TF) (fe : M Val) : SM := sBind fe fun v => sBind (frz v) fun d => sTgt g d
def forLoop (g : TF) (body : SM) : List D → SM
  | [], e => .nx e
  | d :: ds, e => match g d e with
    | none => .bad
    | some e1 => (match body e1 with
      | .nx e2 => forLoop g body ds e2
      | .ct e2 => forLoop g body ds e2
      | .bk e2 => .nx e2
      | .rt v e2 => .rt v e2
      | .er x e2 => .er x e2
      | .bad => .bad)
def sFor (fi : M (List D × Option Nat)) (g : TF) (body : SM) : SM := sBind fi fun p e => (forLoop g body p.1 (lockS p.2 e)).mapE (unlk (didLock p.2 e))
section
variable {X : Cx} {W : WX} {np : Nat} {pos : Pos} {ex tg iter : Expr} {fe : M Val} {g : TF} {body : SM} {st : List Stmt}
theorem ds_asg (h : DE X W ex fe) (hg : DG X (below np) tg g) (hs : swapsWithSole [tg] ex pos.line X.env = pure false := by rfl) (hw : swappedStores [tg] ex X.env = pure none := by rfl)
    (h1 : (assignEach [tg] X.env).map (·.2) = [assign tg X.env] := by rfl) : DS X W np (.Assign [tg] ex pos) (sAsg g fe) := ⟨PS.weak (ps_asg h.pe hg.pg hs hw h1) fun D σ H ⟨S, e, A, k⟩ => by
  refine sBind.step A k fun v e1 H1 S1 w A1 E1 hv k1 => ?_
  refine frzS_step A1 E1 hv k1 fun x e2 S2 A2 E2 _ r k2 => ?_
  unfold sTgt at k2
  cases q : g x e2 with
  | none => rw [q] at k2; exact k2.elim
  | some e3 =>
    rw [q] at k2
    exact ⟨S2, e2, x, e3, A2, r, q, fun σ' A3 E3 P3 => k2 σ' H1 S2 A3 (E2.trans E3) P3.pr⟩⟩
/-- what is asked of a for's walk: its items' loop -/
theorem for_le {K : PySem.W.Frag} {J : It} {ds : List D} {L : List (Addr × HO)} {σ1 : St} {H1 S1 : Hp} {e1 : Env} {D : Ends} (A : Abs K σ1 H1 S1 e1) (jr : JRep K J ds L S1) (hL : ∀ p ∈ L, H1 p.1 = some p.2 ∧ ¬ Own 0 σ1 e1 p.1 ∧ isTab p.2 = false)
    (gl : SGoal K W np σ1 H1 S1 e1 (forLoop g body ds e1) D) :
    ∃ Wl : Nat → Nat → St → Hp → Prop, (∃ m, Wl 0 m σ1 H1) ∧ ∀ i m σ H, Wl i m σ H →
      (J.stop i H ∧ D.nx σ H) ∨ (J.go i H ∧ ∃ N : St → Hp → Prop, (∀ σ' H', N σ' H' → ∃ m', m' < m ∧ Wl (i + 1) m' σ' H') ∧ ∀ x H', J.yld i H x H' → tDG K (below np) g x σ H' fun σ2 H2 => tDs K W np body { D with nx := N, ct := N, bk := D.nx } σ2 H2) := by
  refine for_it jr (fun i σ H => ∃ e S, Abs K σ H S e ∧ Ext σ1 e1 H1 S1 σ e H S ∧ Pr np σ1 σ ∧ SGoal K W np σ1 H1 S1 e1 (forLoop g body (ds.drop i) e) D) ⟨e1, S1, A, Ext.refl, Pr.refl, by rw [List.drop_zero]; exact gl⟩ ?_ ?_ ?_
  · rintro i σ H _ ⟨e, S, A', E', _, _⟩
    exact ⟨fun p hp => (E'.fr p.1 p.2 (hL p hp).1 (hL p hp).2.1 (hL p hp).2.2).1, E'.sm.trans A'.sub⟩
  · rintro i x σ H H' hi ⟨e, S, A', E', P', g'⟩ hy
    obtain ⟨d, hd⟩ : ∃ d, ds[i]? = some d := ⟨ds[i], by rw [List.getElem?_eq_getElem hi]⟩
    have dr : ds.drop i = d :: ds.drop (i + 1) := by
      rw [List.drop_eq_getElem_cons hi]
      rw [List.getElem?_eq_getElem hi] at hd
      rw [Option.some.inj hd]
    rw [dr] at g'
    -- behind the yield
    obtain ⟨S2, A2, E2, r2⟩ := yield_abs A' E'.sm (hy d hd)
    unfold forLoop at g'
    cases q : g d e with
    | none => simp only [q] at g'; exact g'.elim
    | some e3 =>
      simp only [q] at g'
      refine ⟨S2, e, d, e3, A2, r2, q, fun σ3 A3 E3 P3 => ⟨S2, e3, A3, ?_⟩⟩
      have E03 := (E'.trans E2).trans E3
      have P03 := P'.trans P3.pr
      cases q2 : body e3 with
      | nx e4 =>
        rw [q2] at g'
        exact fun σ4 H4 S4 A4 E4 P4 => ⟨e4, S4, A4, E03.trans E4, P03.trans P4, g'⟩
      | ct e4 =>
        rw [q2] at g'
        exact fun σ4 H4 S4 A4 E4 P4 => ⟨e4, S4, A4, E03.trans E4, P03.trans P4, g'⟩
      | bk e4 =>
        rw [q2] at g'
        exact fun σ4 H4 S4 A4 E4 P4 => g' σ4 H4 S4 A4 (E03.trans E4) (P03.trans P4)
      | rt v e4 =>
        rw [q2] at g'
        exact fun σ4 H4 S4 w A4 E4 P4 hv => g' σ4 H4 S4 w A4 (E03.trans E4) (P03.trans P4) (hv.base E03)
      | er y e4 =>
        rw [q2] at g'
        exact fun σ4 H4 S4 c z A4 E4 P4 hx => g' σ4 H4 S4 c z A4 (E03.trans E4) (P03.trans P4) hx
      | bad => rw [q2] at g'; exact g'.elim
  · rintro σ H ⟨e, S, A', E', P', g'⟩
    rw [List.drop_length] at g'
    exact g' σ H S A' E' P'
theorem lock_L {K : PySem.W.Frag} {σ : St} {H S : Hp} {e : Env} {src : Option Nat} {a : Addr} (A : Abs K σ H S e) {i : Nat} {s : SV} (hs : src = some i) (hi : e[i]? = some s) (hh : isHad s = true) (ha : σ[i]? = some (some (V.ref a))) : ¬ Own 0 σ (lockS src e) a := by
  subst hs
  rintro ⟨j, t, _, h1, h2, h3⟩
  have hown := own_lock (src := some i) (k := j) ⟨j, t, Nat.le_refl _, h1, h2, h3⟩
  unfold lockS at h1
  simp only [hi] at h1
  cases s with
  | ow o =>
    simp only at h1
    by_cases hj : i = j
    · subst hj
      rw [List.getElem?_set_self (List.getElem?_eq_some_iff.mp hi).1] at h1
      cases h1
      cases h2
    · rw [List.getElem?_set_ne hj] at h1
      exact hj (A.ap i j _ t a hi h1 rfl (owf_ h2) ha h3)
  | lk o =>
    simp only at h1
    have e := A.ap i j _ t a hi h1 rfl (owf_ h2) ha h3
    subst e
    rw [hi] at h1
    cases h1
    cases h2
  | no => cases hh
  | sh d => cases hh
theorem had_tab {K : PySem.W.Frag} {σ : St} {H S : Hp} {e : Env} {a : Addr} {o : HO} (A : Abs K σ H S e) {i : Nat} {s : SV} (hi : e[i]? = some s) (hh : isHad s = true) (ha : σ[i]? = some (some (V.ref a))) (h : H a = some o) : isTab o = false := by
  obtain ⟨_, u, hu, hm⟩ := A.had_thereM ⟨i, s, hi, hh, ha⟩
  rw [h] at hu
  cases hu
  exact mut_tab hm
theorem ds_for (hp : PassesOwn (model X.prog X.w) X.A X.env X.xe) (hc : X.calm = true) {fi : M (List D × Option Nat)} (hi : DI X W tg iter fi) (hg : DG X (below np) tg g) (hb : DSs X W np st body) (hs : ∀ x, foldedSetIterable iter X.env x = pure x := by intro _; rfl) :
    DS X W np (.For tg iter st [] pos) (sFor fi g body) := ⟨PS.weak (ps_for hp hc hi.pi hg.pg hb.pss hs) fun D σ H ⟨S, e, A, k⟩ => by
  refine sBind.step A k fun p e1 H1 S1 J A1 E1 hJ k1 => ?_
  obtain ⟨L, jr, hL⟩ := hJ
  have k2 := unlock_goal A1 (SGoal.from k1 E1 Pr.refl)
  refine for_le (lock_abs A1) jr (fun q hq => ?_) k2
  obtain ⟨h1, i, s, h2, h3, h4, h5⟩ := hL q hq
  exact ⟨h1, lock_L A1 h2 h3 h4 h5, had_tab A1 h3 h4 h5 h1⟩⟩

/-! ### what is walked, by values -/
theorem jr_list {K : PySem.W.Frag} {S : Hp} {a : Addr} {ds : List D} {vs : List V} {L : List (Addr × HO)} (h : ∀ H, ((∀ p ∈ L, H p.1 = some p.2) ∧ Same S H) → SqL K H a vs) (r : RepL K S ds vs) : JRep K (Itl K a) ds L S := by
  unfold JRep
  rw [r.length]
  refine walk_list.mono h fun i H x H' hi hG hy d hd => ?_
  obtain ⟨e, hx⟩ := hy
  obtain ⟨v, k1, k2⟩ := r.get hd
  rw [hx] at k1
  cases k1
  exact .inl ⟨e, k2⟩
theorem jr_tup {K : PySem.W.Frag} {S : Hp} {a : Addr} {ds : List D} {vs : List V} {L : List (Addr × HO)} (h : ∀ H, ((∀ p ∈ L, H p.1 = some p.2) ∧ Same S H) → SqT K H a vs) (r : RepL K S ds vs) : JRep K (Itt K a) ds L S := by
  unfold JRep
  rw [r.length]
  refine walk_tup.mono h fun i H x H' hi hG hy d hd => ?_
  obtain ⟨e, hx⟩ := hy
  obtain ⟨v, k1, k2⟩ := r.get hd
  rw [hx] at k1
  cases k1
  exact .inl ⟨e, k2⟩
def srcOf (v : Val) : Option Nat := match v with
  | .at_ i => some i
  | _ => none
def isTupD : D → Bool
  | .tup _ => true
  | _ => false
/-- the items of a value and what they lean on -/
theorem src_of {K : PySem.W.Frag} {σ : St} {H0 H S : Hp} {e : Env} {v : Val} {w : V} {d : D} (A : Abs K σ H S e) (hv : VAt K σ H0 H S e v w) (hd : vwD e v = some d) (hs : isSeq d = true) (hn : ∀ o, v ≠ .new o) :
    ∃ a vs L, w = .ref a ∧ RepL K S (itsD d) vs ∧ (∀ q ∈ L, H q.1 = some q.2 ∧ ∃ (i : Nat) (s : SV), srcOf v = some i ∧ e[i]? = some s ∧ isHad s = true ∧ σ[i]? = some (some (V.ref q.1))) ∧
      (isTupD d = false → ∀ H', ((∀ q ∈ (L : List (Addr × HO)), H' q.1 = some q.2) ∧ Same S H') → SqL K H' a vs) ∧ (isTupD d = true → ∀ H', Same S H' → SqT K H' a vs) := by
  have none : ∀ q ∈ ([] : List (Addr × HO)), H q.1 = some q.2 ∧ ∃ (i : Nat) (s : SV), srcOf v = some i ∧ e[i]? = some s ∧ isHad s = true ∧ σ[i]? = some (some (V.ref q.1)) := fun q hq => by cases hq
  cases v with
  | new o => exact (hn o rfl).elim
  | d x =>
    cases hd
    cases d with
    | lst xs =>
      obtain ⟨a, vs, rfl, k1, k2⟩ := rep_lst.mp (show Rep K S (.lst xs) w from hv)
      exact ⟨a, vs, [], rfl, k2, none, fun _ H' h => .of (h.2 _ _ k1), fun z => by cases z⟩
    | rol xs =>
      obtain ⟨a, vs, rfl, k1, k2⟩ := rep_rol.mp (show Rep K S (.rol xs) w from hv)
      exact ⟨a, vs, [], rfl, k2, none, fun _ H' h => sqL_same h.2 k1, fun z => by cases z⟩
    | tup xs =>
      obtain ⟨a, vs, rfl, k1, k2⟩ := rep_tupQ (show Rep K S (.tup xs) w from hv)
      exact ⟨a, vs, [], rfl, k2, none, (fun z => by cases z), fun _ H' h => sqT_same h k1⟩
    | _ => cases hs
  | at_ i =>
    obtain ⟨s, h1, h2, h3⟩ := id hv
    have hV := hv.view A hd
    have hd : ((e[i]?).bind SV.o).bind O.d = some d := hd
    cases q : (e[i]?).bind SV.o with
    | none => rw [q] at hd; cases hd
    | some o =>
      rw [q] at hd
      cases o with
      | lst xs =>
        cases hd
        obtain ⟨a, vs, rfl, k1, k2⟩ := hV
        refine ⟨a, vs, [(a, .lst vs)], rfl, k2, fun q hq => ?_, fun _ H' h => .of (h.1 (a, .lst vs) (by simp)), fun z => by cases z⟩
        have eq : q = (a, .lst vs) := by simpa using hq
        subst eq
        exact ⟨k1, i, s, rfl, h1, h2, h3⟩
      | ins c ns xs => cases hd; cases hs
      | dct b kvs => cases hd
def lookSeq (v : Val) : M (List D × Option Nat) := fun e => match vwD e v with
  | some a => if isSeq a = true then .ok (itsD a, srcOf v) e else .bad
  | none => .bad
def iVal (f : M Val) : M (List D × Option Nat) := M.bind f fun v => M.bind (argV v) lookSeq
theorem argV_new {e : Env} {v v' : Val} (h : argV v e = .ok v' e) : ∀ o, v' ≠ .new o := fun o z => by
  subst z
  cases v with
  | at_ i => cases h
  | d x => cases h
  | new o' =>
    unfold argV M.bind frz at h
    simp only at h
    cases q : o'.d with
    | none => rw [q] at h; cases h
    | some x => rw [q] at h; cases h
def tupOf (f : M Val) (e : Env) : Bool := match f e with
  | .ok v e1 => (match argV v e1 with
    | .ok v2 _ => (match vwD e1 v2 with
      | some d => isTupD d
      | none => false)
    | _ => false)
  | _ => false
theorem di_val (h : DE X W iter fe) : DI X W tg iter (iVal fe) := ⟨PI.weak (PI.or (pi_list h.pe) (pi_tup h.pe)) fun σ H R ⟨S, e, A, g0⟩ => by
  have core : tDx X.K W (vAt X.K) fe σ H fun x H1 => ∃ a vs, x = .ref a ∧ (tupOf fe e = false → SqL X.K H1 a vs ∧ R (Itl X.K a) H1) ∧ (tupOf fe e = true → SqT X.K H1 a vs ∧ R (Itt X.K a) H1) := by
    refine ⟨S, e, A, ?_⟩
    unfold iVal M.bind at g0
    cases q : fe e with
    | er x e' => rw [q] at g0; exact g0
    | bad => rw [q] at g0; exact g0
    | ok v e1 =>
      rw [q] at g0
      intro H1 S1 w A1 E1 v1
      have g1 : Goal X.K W σ H S e (iAt X.K σ H) (M.bind (argV v) lookSeq e1) R := g0
      refine arg_step A1 E1 v1 g1 fun v2 S2 ha A2 E2 r2 g2 => ?_
      unfold lookSeq at g2
      cases q2 : vwD e1 v2 with
      | none => simp only [q2] at g2; exact g2.elim
      | some d =>
        simp only [q2] at g2
        by_cases hs : isSeq d = true
        · rw [if_pos hs] at g2
          have ht : tupOf fe e = isTupD d := by unfold tupOf; simp only [q, ha, q2]
          rw [ht]
          obtain ⟨a, vs, L, rfl, k1, k2, k3, k4⟩ := src_of A2 (r2 H) q2 hs (argV_new ha)
          have hL : ∀ q ∈ L, H1 q.1 = some q.2 := fun q hq => (k2 q hq).1
          refine ⟨a, vs, rfl, fun z => ⟨k3 z H1 ⟨hL, A2.sub⟩, g2 H1 S2 _ A2 E2 ⟨L, jr_list (k3 z) k1, k2⟩⟩, fun z => ⟨k4 z H1 A2.sub, g2 H1 S2 _ A2 E2 ⟨L, jr_tup (fun H' h => k4 z H' h.2) k1, k2⟩⟩⟩
        · rw [if_neg hs] at g2; exact g2.elim
  cases hb : tupOf fe e with
  | false => exact .inl (tDx.imp core fun x H1 ⟨a, vs, h1, h2, _⟩ => let ⟨k1, k2⟩ := h2 hb; ⟨a, h1, ⟨vs, k1⟩, k2⟩)
  | true => exact .inr (tDx.imp core fun x H1 ⟨a, vs, h1, _, h2⟩ => let ⟨k1, k2⟩ := h2 hb; ⟨a, h1, ⟨vs, k1⟩, k2⟩)⟩
/-- range(n), range(a, b) -/
def rangeD (lo : Int) (n : Nat) : List D := (List.range n).map fun i => .int (lo + (i : Nat))
def in62 (i : Int) : Bool := decide (-(2 ^ 62) ≤ i ∧ i < 2 ^ 62)
def rng1 (xs : List D) : M (List D × Option Nat) := fun e => match xs with
  | [.int j] => if in62 j = true then .ok (rangeD 0 j.toNat, none) e else .bad
  | _ => .bad
def rng2 (xs : List D) : M (List D × Option Nat) := fun e => match xs with
  | [.int i, .int j] => if in62 i = true ∧ in62 j = true then .ok (rangeD i (j - i).toNat, none) e else .bad
  | _ => .bad
theorem jr_range {K : PySem.W.Frag} {S : Hp} {lo : Int} {n : Nat} : JRep K (Itr lo n) (rangeD lo n) [] S := by
  unfold JRep
  have hl : (rangeD lo n).length = n := by unfold rangeD; rw [List.length_map, List.length_range]
  rw [hl]
  refine walk_range.mono (fun _ _ => trivial) fun i H x H' hi hG hy d hd => ?_
  obtain ⟨e, hx⟩ := hy
  unfold rangeD at hd
  rw [List.getElem?_map, List.getElem?_range hi] at hd
  cases hd
  exact .inl ⟨e, rep_int.mpr hx⟩
theorem di_range1 {a : Expr} {fs : M (List D)} {p pos' : Pos} (hg : Gl X "range") (hm : X.mg "range" = none) (ha : DF X W [a] fs) (hs : starEach [a] X.env = [(false, eval a X.env)] := by rfl) : DI X W tg (.Call (.Name "range" p) [a] [] pos') (M.bind fs rng1) :=
  ⟨PI.weak (pi_range1 hg hm ha.pa hs) fun σ H R ⟨S, e, A, g⟩ => by
    refine tDx.step A Ext.refl g fun xs e1 H1 S1 ws A1 E1 _ r g1 => ?_
    unfold rng1 at g1
    split at g1
    · rename_i j
      split at g1
      · rename_i hj
        obtain ⟨w, us, rfl, r1, r2⟩ := repL_cons.mp r
        rw [repL_nil] at r2
        subst r2
        obtain ⟨h1, h2⟩ := of_decide_eq_true hj
        exact ⟨j, by rw [rep_int.mp r1], h1, h2, g1 H1 S1 _ A1 E1 ⟨[], jr_range, fun q hq => by cases hq⟩⟩
      · exact g1.elim
    · exact g1.elim⟩
/-! ### while -/
/-- so many turns at most -/
def whN (c : M Bool) (body : SM) : Nat → Env → Option SO
  | 0, _ => none
  | n + 1, e => match c e with
    | .ok true e1 => (match body e1 with
      | .nx e2 => whN c body n e2
      | .ct e2 => whN c body n e2
      | .bk e2 => some (.nx e2)
      | .rt v e2 => some (.rt v e2)
      | .er x e2 => some (.er x e2)
      | .bad => some .bad)
    | .ok false e1 => some (.nx e1)
    | .er x e1 => some (.er x e1)
    | .bad => some .bad
open Classical in
noncomputable def sWhile (c : M Bool) (body : SM) : SM := fun e => if h : ∃ n r, whN c body n e = some r then h.choose_spec.choose else .bad
theorem whN_mono {c : M Bool} : ∀ {n : Nat} {e : Env} {r : SO}, whN c body n e = some r → whN c body (n + 1) e = some r
  | 0, e, r, h => by cases h
  | n + 1, e, r, h => by
    unfold whN at h ⊢
    cases q : c e with
    | bad => rw [q] at h; exact h
    | er x e1 => rw [q] at h; exact h
    | ok b e1 =>
      rw [q] at h
      cases b with
      | false => exact h
      | true =>
        simp only at h ⊢
        cases q2 : body e1 with
        | nx e2 => rw [q2] at h; exact whN_mono h
        | ct e2 => rw [q2] at h; exact whN_mono h
        | bk e2 => rw [q2] at h; exact h
        | rt v e2 => rw [q2] at h; exact h
        | er x e2 => rw [q2] at h; exact h
        | bad => rw [q2] at h; exact h
theorem whN_le {c : M Bool} {n m : Nat} {e : Env} {r : SO} (h : whN c body n e = some r) (k : n ≤ m) : whN c body m e = some r := by
  induction k with
  | refl => exact h
  | step _ ih => exact whN_mono ih
theorem sWhile_eq {c : M Bool} {n : Nat} {e : Env} {r : SO} (h : whN c body n e = some r) : sWhile c body e = r := by
  unfold sWhile
  have hx : ∃ n r, whN c body n e = some r := ⟨n, r, h⟩
  rw [dif_pos hx]
  have h2 := hx.choose_spec.choose_spec
  have a := whN_le h (Nat.le_max_left n hx.choose)
  have b := whN_le h2 (Nat.le_max_right n hx.choose)
  rw [a] at b
  exact (Option.some.inj b).symm
theorem while_le {K : PySem.W.Frag} {fc : M Bool} {σ0 : St} {H0 S0 : Hp} {e0 : Env} {D : Ends} {n : Nat} {r0 : SO} (A0 : Abs K σ0 H0 S0 e0) (hn : whN fc body n e0 = some r0) (g : SGoal K W np σ0 H0 S0 e0 r0 D) : tWhile (tDB K W fc) (tDs K W np body) D σ0 H0 := by
  refine ⟨fun m σ H => ∃ e S, Abs K σ H S e ∧ Ext σ0 e0 H0 S0 σ e H S ∧ Pr np σ0 σ ∧ whN fc body m e = some r0, ⟨n, e0, S0, A0, Ext.refl, Pr.refl, hn⟩, ?_⟩
  rintro m σ H ⟨e, S, A, E, P, hm⟩
  cases m with
  | zero => cases hm
  | succ m =>
    unfold whN at hm
    refine ⟨S, e, A, ?_⟩
    cases q : fc e with
    | bad =>
      rw [q] at hm
      cases hm
      exact g.elim
    | er x e1 =>
      rw [q] at hm
      cases hm
      exact fun H1 S1 c d A1 E1 h1 => g σ H1 S1 c d A1 (E.trans E1) P h1
    | ok b e1 =>
      rw [q] at hm
      intro H1 S1 w A1 E1 hw
      cases hw
      cases b with
      | false =>
        cases hm
        rw [if_neg Bool.false_ne_true]
        exact g σ H1 S1 A1 (E.trans E1) P
      | true =>
        rw [if_pos rfl]
        simp only at hm
        refine ⟨fun σ H => ∃ e S, Abs K σ H S e ∧ Ext σ0 e0 H0 S0 σ e H S ∧ Pr np σ0 σ ∧ whN fc body m e = some r0, fun σ' H' h => ⟨m, Nat.lt_succ_self m, h⟩, S1, e1, A1, ?_⟩
        have E01 := E.trans E1
        cases q2 : body e1 with
        | nx e2 =>
          rw [q2] at hm
          exact fun σ2 H2 S2 A2 E2 P2 => ⟨e2, S2, A2, E01.trans E2, P.trans P2, hm⟩
        | ct e2 =>
          rw [q2] at hm
          exact fun σ2 H2 S2 A2 E2 P2 => ⟨e2, S2, A2, E01.trans E2, P.trans P2, hm⟩
        | bk e2 =>
          rw [q2] at hm
          cases hm
          exact fun σ2 H2 S2 A2 E2 P2 => g σ2 H2 S2 A2 (E01.trans E2) (P.trans P2)
        | rt v e2 =>
          rw [q2] at hm
          cases hm
          exact fun σ2 H2 S2 w A2 E2 P2 hv => g σ2 H2 S2 w A2 (E01.trans E2) (P.trans P2) (hv.base E01)
        | er x e2 =>
          rw [q2] at hm
          cases hm
          exact fun σ2 H2 S2 c d A2 E2 P2 hx => g σ2 H2 S2 c d A2 (E01.trans E2) (P.trans P2) hx
        | bad =>
          rw [q2] at hm
          cases hm
          exact g.elim
theorem ds_while {c : Expr} {fc : M Bool} (hp : PassesOwn (model X.prog X.w) X.A X.env X.xe) (hc : DT X W c fc) (hb : DSs X W np st body) : DS X W np (.While c st [] pos) (sWhile fc body) := ⟨PS.weak (ps_while hp hc.pt hb.pss) fun D σ H ⟨S, e, A, g⟩ => by
  by_cases hx : ∃ n r, whN fc body n e = some r
  · obtain ⟨n, r, hn⟩ := hx
    rw [sWhile_eq hn] at g
    exact while_le A hn g
  · unfold sWhile at g
    rw [dif_neg hx] at g
    exact g.elim⟩
end
end DL

set_option maxHeartbeats 4000000
/-! DL10: list comprehensions. -/
namespace DL
open PySem PySem.Spec PyProof.Rows L2
variable [TabsT]

def wipeE (e : Env) : List Nat → Env
  | [] => e
  | v :: vs => (wipeE e vs).set v .no
def outside (vs : List Nat) : Nat → Bool := fun j => !(vs.contains j)
section
variable {K : PySem.W.Frag} {σ : St} {H S : Hp} {e : Env}
theorem wipeE_length (e : Env) : ∀ vs : List Nat, (wipeE e vs).length = e.length
  | [] => rfl
  | v :: vs => by unfold wipeE; rw [List.length_set, wipeE_length e vs]
theorem wipeE_get {vs : List Nat} {i : Nat} {s : SV} (h : (wipeE e vs)[i]? = some s) : s = .no ∨ (i ∉ vs ∧ e[i]? = some s) := by
  induction vs generalizing s with
  | nil => exact .inr ⟨by simp, h⟩
  | cons v vs ih =>
    unfold wipeE at h
    by_cases hv : v = i
    · subst hv
      by_cases hl : v < (wipeE e vs).length
      · rw [List.getElem?_set_self hl] at h
        cases h
        exact .inl rfl
      · rw [List.getElem?_eq_none (by rw [List.length_set]; omega)] at h
        cases h
    · rw [List.getElem?_set_ne hv] at h
      rcases ih h with z | ⟨h1, h2⟩
      · exact .inl z
      · exact .inr ⟨by simp only [List.mem_cons, not_or]; exact ⟨Ne.symm hv, h1⟩, h2⟩
theorem wipeE_out {vs : List Nat} {i : Nat} (h : i ∉ vs) : (wipeE e vs)[i]? = e[i]? := by
  induction vs with
  | nil => rfl
  | cons v vs ih =>
    simp only [List.mem_cons, not_or] at h
    unfold wipeE
    rw [List.getElem?_set_ne (Ne.symm h.1)]
    exact ih h.2
theorem wipeE_in {vs : List Nat} {i : Nat} (h : i ∈ vs) (hl : i < e.length) : (wipeE e vs)[i]? = some .no := by
  induction vs with
  | nil => cases h
  | cons v vs ih =>
    unfold wipeE
    by_cases hv : v = i
    · subst hv
      exact List.getElem?_set_self (by rw [wipeE_length]; exact hl)
    · rw [List.getElem?_set_ne hv]
      exact ih ((List.mem_cons.mp h).resolve_left (Ne.symm hv))
theorem wipeE_wipeE {vs : List Nat} : wipeE (wipeE e vs) vs = wipeE e vs := by
  apply List.ext_getElem?
  intro i
  by_cases hi : i ∈ vs
  · by_cases hlt : i < e.length
    · rw [wipeE_in hi hlt, wipeE_in hi (by rw [wipeE_length]; exact hlt)]
    · rw [List.getElem?_eq_none (by rw [wipeE_length, wipeE_length]; omega), List.getElem?_eq_none (by rw [wipeE_length]; omega)]
  · rw [wipeE_out hi]
theorem wipe_get {vs : List Nat} {i : Nat} (h : i ∉ vs) : (wipe σ vs)[i]? = σ[i]? := by
  induction vs with
  | nil => rfl
  | cons v vs ih =>
    simp only [List.mem_cons, not_or] at h
    unfold wipe
    rw [List.getElem?_set_ne (Ne.symm h.1)]
    exact ih h.2
theorem wipe_in {vs : List Nat} {i : Nat} (h : i ∈ vs) (hl : i < σ.length) : (wipe σ vs)[i]? = some none := by
  induction vs with
  | nil => cases h
  | cons v vs ih =>
    unfold wipe
    by_cases hv : v = i
    · subst hv
      exact List.getElem?_set_self (by rw [wipe_length]; exact hl)
    · rw [List.getElem?_set_ne hv]
      exact ih ((List.mem_cons.mp h).resolve_left (Ne.symm hv))
theorem wipe_eq {σ' : St} {vs : List Nat} (hl : σ'.length = σ.length) (h : ∀ j, j ∉ vs → σ'[j]? = σ[j]?) : wipe σ' vs = wipe σ vs := by
  apply List.ext_getElem?
  intro i
  by_cases hi : i ∈ vs
  · by_cases hlt : i < σ.length
    · rw [wipe_in hi hlt, wipe_in hi (by rw [hl]; exact hlt)]
    · rw [List.getElem?_eq_none (by rw [wipe_length]; omega), List.getElem?_eq_none (by rw [wipe_length]; omega)]
  · rw [wipe_get hi, wipe_get hi, h i hi]
theorem wipe_wipe {vs : List Nat} : wipe (wipe σ vs) vs = wipe σ vs := wipe_eq (wipe_length _ _) fun _ h => wipe_get h
/-- with the slots vs forgotten the slots' values there don't matter -/
theorem wipe_to {vs : List Nat} {σ1 σ2 : St} (A : Abs K σ1 H S e) (hl : σ2.length = σ1.length) (h : ∀ j, j ∉ vs → σ2[j]? = σ1[j]?) : Abs K σ2 H S (wipeE e vs) ∧ ∀ {σ0 e0 H0 S0}, Ext σ0 e0 H0 S0 σ1 e H S → Ext σ0 e0 H0 S0 σ2 (wipeE e vs) H S := by
  have get : ∀ (i : Nat) (s : SV), (wipeE e vs)[i]? = some s → isHad s = true → e[i]? = some s ∧ σ2[i]? = σ1[i]? := fun i s hs hh => by
    rcases wipeE_get hs with rfl | ⟨k1, k2⟩
    · cases hh
    · exact ⟨k2, h i k1⟩
  refine ⟨⟨by rw [wipeE_length, A.len, hl], A.sub, fun i s hs => ?_, fun i j s t a h1 h2 o1 o2 x1 x2 => ?_, A.tab, A.nt, A.ot⟩, fun {σ0 e0 H0 S0} E => ⟨E.sm, E.fr, E.tr, fun k b ⟨i, s, h0, h1, h2, h3⟩ => ?_, fun b ⟨i, s, h1, h2, h3⟩ => ?_, fun i s h1 h2 => ?_, E.tb⟩⟩
  · rcases wipeE_get hs with rfl | ⟨k1, k2⟩
    · trivial
    · rw [h i k1]
      exact A.at_ i s k2
  · obtain ⟨a1, b1⟩ := get i s h1 o1
    obtain ⟨a2, b2⟩ := get j t h2 o2
    exact A.ap i j s t a a1 a2 o1 o2 (by rw [← b1]; exact x1) (by rw [← b2]; exact x2)
  · obtain ⟨a1, b1⟩ := get i s h1 (owf_ h2)
    exact E.ow k b ⟨i, s, h0, a1, h2, by rw [← b1]; exact h3⟩
  · obtain ⟨a1, b1⟩ := get i s h1 h2
    exact E.hd b ⟨i, s, a1, h2, by rw [← b1]; exact h3⟩
  · obtain ⟨a1, b1⟩ := get i s h1 (by cases s <;> first | rfl | cases h2)
    obtain ⟨k1, k2⟩ := E.lk i s a1 h2
    exact ⟨k1, b1.trans k2⟩
/-- an object that no slot has, written -/
theorem wr_abs {D : Addr} {o : HO} (A : Abs K σ H S e) (sD : S D = none) (nD : ¬ Had σ e D) {u : HO} (hu : H D = some u) (hm : mutHO u = true) (hx : isExt u = false) (ho : isTab o = false := by rfl) : Abs K σ (upd H D o) S e := by
  refine ⟨A.len, fun b z hb => ?_, fun i s hs => ?_, A.ap, tabs_wr hu (mut_tab hm) hx A.tab, A.nt, ot_upd A.ot ho⟩
  · rw [upd_ne (fun q => by rw [q, sD] at hb; cases hb)]
    exact A.sub b z hb
  · have k := A.at_ i s hs
    cases s with
    | no => trivial
    | sh d => exact k
    | ow u =>
      obtain ⟨a, h1, h2, h3⟩ := k
      exact ⟨a, h1, h2, h3.mono (Same.refl _) (upd_ne fun q => nD ⟨i, _, hs, rfl, by rw [h1, q]⟩)⟩
    | lk u =>
      obtain ⟨a, h1, h2, h3⟩ := k
      exact ⟨a, h1, h2, h3.mono (Same.refl _) (upd_ne fun q => nD ⟨i, _, hs, rfl, by rw [h1, q]⟩)⟩
theorem wr_ext {σ0 : St} {e0 : Env} {H0 S0 : Hp} {D : Addr} {o : HO} (E : Ext σ0 e0 H0 S0 σ e H S) (h0 : H0 D = none) {u : HO} (hu : H D = some u) (hm : mutHO u = true) (hx : isExt u = false) : Ext σ0 e0 H0 S0 σ e (upd H D o) S :=
  ⟨E.sm, fun b z hb nb nt => by rw [upd_ne (fun q => by rw [q, h0] at hb; cases hb)]; exact E.fr b z hb nb nt, (fun b hb => by
    by_cases q : b = D
    · rw [q]; exact h0
    · rw [upd_ne q] at hb; exact E.tr b hb), E.ow, E.hd, E.lk, fun t => tabs_wr hu (mut_tab hm) hx (E.tb t)⟩
end
def compLoop (vs : List Nat) (g : TF) (t : M Bool) (el : M D) : List D → List D → M (List D)
  | [], acc, e => .ok acc e
  | d :: ds, acc, e => match g d e with
    | none => .bad
    | some e1 => (match t e1 with
      | .ok true e2 => (match el e2 with
        | .ok x e3 => if acc.length < sizeLine then compLoop vs g t el ds (acc ++ [x]) (wipeE e3 vs) else .bad
        | _ => .bad)
      | .ok false e2 => compLoop vs g t el ds acc (wipeE e2 vs)
      | _ => .bad)
def tT : M Bool := M.ret true
def dComp (fi : M (List D × Option Nat)) (vs : List Nat) (g : TF) (t : M Bool) (fe : M Val) : M Val := M.bind fi fun p e => match compLoop vs g t (M.bind fe frz) p.1 [] (wipeE (lockS p.2 e) vs) with
  | .ok xs e' => .ok (.new (.lst xs)) (unlk (didLock p.2 e) e')
  | _ => .bad
abbrev noW : WX := fun _ _ _ _ => False
structure DTs (X : Cx) (W : WX) (es : List Expr) (f : M Bool) : Prop where
  pts : PTs X es (tDB X.K W f)
theorem PTs.weak {X : Cx} {e : List Expr} {t t' : TT} (h : PTs X e t) (k : ∀ σ H Q, t' σ H Q → t σ H Q) : PTs X e t' := ⟨fun pins s σ H Q I q => h.run pins s σ H Q I (k σ H Q q)⟩
theorem dts_nil {X : Cx} {W : WX} : DTs X W [] tT := ⟨PTs.weak pts_nil fun σ H Q ⟨S, e, A, g⟩ => g H S true A Ext.refl rfl⟩
theorem dts_one {X : Cx} {W : WX} {c : Expr} {f : M Bool} (h : DT X W c f) : DTs X W [c] f := ⟨pts_one h.pt⟩
theorem walk_some {α : Type} {ds : List α} {i : Nat} (hi : i < ds.length) : ∃ d, ds[i]? = some d ∧ ds.drop i = d :: ds.drop (i + 1) := ⟨ds[i], List.getElem?_eq_getElem hi, List.drop_eq_getElem_cons hi⟩
section
variable {K : PySem.W.Frag} {vs : List Nat} {g : TF} {t : M Bool} {fe : M Val}
/-- what is asked of a comprehension's walk: its items' loop -/
theorem comp_le {J : It} {ds : List D} {L : List (Addr × HO)} {σ : St} {H1 S1 : Hp} {e1 ef : Env} {xs : List D} {Q : VK} {Dn : Addr} (A : Abs K σ H1 S1 e1) (jr : JRep K J ds L S1) (hL : ∀ p ∈ L, H1 p.1 = some p.2 ∧ ¬ Own 0 σ e1 p.1 ∧ isTab p.2 = false)
    (hc : compLoop vs g t (M.bind fe frz) ds [] (wipeE e1 vs) = .ok xs ef) (hD : H1 Dn = none)
    (fin : ∀ H S us, Abs K σ H S ef → Ext σ e1 H1 S1 σ ef H S → H Dn = some (.lst us) → RepL K S xs us → S Dn = none → ¬ Had σ ef Dn → Q (.ref Dn) H) :
    ∃ Wl : Nat → Nat → Hp → Prop, (∃ m, Wl 0 m (upd H1 Dn (.lst []))) ∧ ∀ i m H, Wl i m H →
      (J.stop i H ∧ Q (.ref Dn) H) ∨ (J.go i H ∧ ∃ Nx : Hp → Prop, (∀ H', Nx H' → ∃ m', m' < m ∧ Wl (i + 1) m' H') ∧ ∀ x H', J.yld i H x H' → tDG K (outside vs) g x (wipe σ vs) H' fun σ2 H2 => wipe σ2 vs = wipe σ vs ∧ tDB K noW t σ2 H2 fun b H3 =>
        if b = true then tD K noW fe σ2 H3 fun y H4 => ∃ acc, H4 Dn = some (.lst acc) ∧ acc.length < sizeLine ∧ Nx (upd H4 Dn (.lst (acc ++ [y]))) else Nx H3) := by
  obtain ⟨A0, E0⟩ := wipe_to (vs := vs) (σ2 := wipe σ vs) A (wipe_length _ _) fun j hj => wipe_get hj
  have E0 := E0 Ext.refl
  refine lc_it jr (fun i H => ∃ e S acc us, Abs K (wipe σ vs) H S e ∧ Ext σ e1 H1 S1 (wipe σ vs) e H S ∧ H Dn = some (.lst us) ∧ RepL K S acc us ∧ S Dn = none ∧ ¬ Had (wipe σ vs) e Dn ∧ (∃ e2, e = wipeE e2 vs) ∧ compLoop vs g t (M.bind fe frz) (ds.drop i) acc e = .ok xs ef)
    ⟨_, S1, [], [], abs_new A0 hD, E0.trans (ext_new hD), upd_same, .nil, A.sub.free hD, not_had A0 hD, ⟨e1, rfl⟩, by rw [List.drop_zero]; exact hc⟩ ?_ ?_ ?_
  · rintro i H _ ⟨e, S, acc, us, A', E', _⟩
    exact ⟨fun p hp => (E'.fr p.1 p.2 (hL p hp).1 (hL p hp).2.1 (hL p hp).2.2).1, E'.sm.trans A'.sub⟩
  · rintro i x H H' hi ⟨e, S, acc, us, A', E', hus, ru, sD, nD, _, hl⟩ hy
    obtain ⟨d, hd, dr⟩ := walk_some hi
    rw [dr] at hl
    obtain ⟨S2, A2, E2, r2⟩ := yield_abs A' E'.sm (hy d hd)
    unfold compLoop at hl
    cases q : g d e with
    | none => rw [q] at hl; cases hl
    | some e3 =>
      rw [q] at hl
      simp only at hl
      refine ⟨S2, e, d, e3, A2, r2, q, fun σ3 A3 E3 P3 => ⟨?_, S2, e3, A3, ?_⟩⟩
      · rw [wipe_eq P3.1 fun j hj => P3.2 j (by unfold outside; simpa using hj), wipe_wipe]
      have wq : wipe σ3 vs = wipe σ vs := by rw [wipe_eq P3.1 fun j hj => P3.2 j (by unfold outside; simpa using hj), wipe_wipe]
      have E23 := E2.trans E3
      cases q2 : t e3 with
      | er y e4 => rw [q2] at hl; cases hl
      | bad => rw [q2] at hl; cases hl
      | ok b e4 =>
        rw [q2] at hl
        intro H4 S4 w A4 E4 hw
        cases hw
        have E24 := E23.trans E4
        -- the turn's end from any later state
        have done : ∀ {σ5 : St} {H5 S5 : Hp} {e5 : Env} {acc' : List D} {us' : List V}, wipe σ5 vs = wipe σ vs → Abs K σ5 H5 S5 e5 → Ext (wipe σ vs) e H S σ5 e5 H5 S5 → Abs K (wipe σ vs) H5 S5 (wipeE e5 vs) ∧ Ext σ e1 H1 S1 (wipe σ vs) (wipeE e5 vs) H5 S5 ∧ H5 Dn = some (.lst us) ∧ S5 Dn = none ∧ ¬ Had (wipe σ vs) (wipeE e5 vs) Dn := fun {σ5 H5 S5 e5 acc' us'} w5 A5 E5 => by
          obtain ⟨A6, E6⟩ := wipe_to (vs := vs) (σ2 := wipe σ vs) A5 (by rw [← w5, wipe_length]) fun j hj => by rw [← w5, wipe_get hj]
          have E56 := E6 E5
          obtain ⟨k1, k2⟩ := E5.fr Dn _ hus (fun z => nD z.had) rfl
          refine ⟨A6, E'.trans E56, k1, k2 rfl sD, fun z => (E56.hd Dn z).elim nD fun y => by rw [hus] at y; cases y⟩
        cases b with
        | false =>
          rw [if_neg Bool.false_ne_true]
          simp only at hl
          obtain ⟨B1, B2, B3, B4, B5⟩ := done (acc' := acc) (us' := us) wq A4 E24
          exact ⟨_, S4, acc, us, B1, B2, B3, ru.same E24.sm, B4, B5, ⟨e4, rfl⟩, hl⟩
        | true =>
          rw [if_pos rfl]
          simp only at hl
          refine ⟨S4, e4, A4, ?_⟩
          unfold M.bind at hl
          cases q3 : fe e4 with
          | er y e5 => rw [q3] at hl; cases hl
          | bad => rw [q3] at hl; cases hl
          | ok v e5 =>
            rw [q3] at hl
            simp only at hl
            intro H5 S5 y A5 E5 hv
            cases q4 : frz v e5 with
            | er y e6 => rw [q4] at hl; cases hl
            | bad => rw [q4] at hl; cases hl
            | ok x6 e6 =>
              rw [q4] at hl
              simp only at hl
              split at hl
              · rename_i hz
                refine frz_step (W := noW) (k := fun x e => .ok x e) (At := fun (x : DL.D) H S e (w : V) => Rep K S x w) (Q := fun _ _ => True) A5 E5 hv ?_ fun x7 e7 S7 hf A7 E7 sm r7 _ => ?_
                · unfold M.bind
                  rw [q4]
                  exact fun _ _ _ _ _ _ => trivial
                · rw [q4] at hf
                  cases hf
                  have E27 := E24.trans E7
                  obtain ⟨B1, B2, B3, B4, B5⟩ := done (acc' := acc) (us' := us) wq A7 E27
                  refine ⟨us, B3, by rw [← ru.length]; exact hz, ?_⟩
                  exact ⟨_, S7, acc ++ [x6], us ++ [y], wr_abs B1 B4 B5 B3 rfl rfl, wr_ext B2 hD B3 rfl rfl, upd_same, (ru.same E27.sm).append (.cons r7 .nil), B4, B5, ⟨e6, rfl⟩, hl⟩
              · cases hl
  · rintro H ⟨e, S, acc, us, A', E', hus, ru, sD, nD, ⟨e2, he⟩, hl⟩
    rw [List.drop_length] at hl
    unfold compLoop at hl
    have h1 : e = ef := by cases hl; rfl
    have h2 : acc = xs := by cases hl; rfl
    rw [h1] at he A' E' nD
    rw [h2] at ru
    have back : wipeE ef vs = ef := by rw [he, wipeE_wipeE]
    obtain ⟨A2, E2⟩ := wipe_to (vs := vs) (σ2 := σ) A' (by rw [wipe_length]) fun j hj => (wipe_get hj).symm
    rw [back] at A2 E2
    exact fin H S us A2 (E2 E') hus ru sD fun z => nD (by
      obtain ⟨i, s, h1, h2, h3⟩ := z
      refine ⟨i, s, h1, h2, ?_⟩
      rw [he] at h1
      rcases wipeE_get h1 with rfl | ⟨k1, _⟩
      · cases h2
      · rw [wipe_get k1]; exact h3)
end
section
variable {X : Cx} {W : WX} {pos : Pos} {elt tg iter : Expr} {ifs : List Expr} {scope : Scope} {own : List (Str × Nat)} {fi : M (List D × Option Nat)} {g : TF} {t : M Bool} {fe : M Val} {np : Nat}
theorem comp_tLc {K : PySem.W.Frag} {vs : List Nat} {σ : St} {H : Hp} {Q : VK} (h : tD K W (dComp fi vs g t fe) σ H Q) : tLc (tDx K W (iAt K) fi) (tDG K (outside vs) g) (tDB K noW t) (tD K noW fe) vs σ H Q := by
  obtain ⟨S, e, A, g0⟩ := h
  refine tDx.step A Ext.refl g0 fun p e1 H1 S1 J A1 E1 _ hJ g1 => ?_
  intro Dn hD
  obtain ⟨L, jr, hL⟩ := hJ
  cases q : compLoop vs g t (M.bind fe frz) p.1 [] (wipeE (lockS p.2 e1) vs) with
  | er y e' => rw [q] at g1; exact g1.elim
  | bad => rw [q] at g1; exact g1.elim
  | ok xs ef =>
    rw [q] at g1
    refine comp_le (lock_abs A1) jr (fun z hz => ?_) q hD fun H2 S2 us A2 E2 hus ru sD nD => ?_
    · obtain ⟨h1, i, s, h2, h3, h4, h5⟩ := hL z hz
      exact ⟨h1, lock_L A1 h2 h3 h4 h5, had_tab A1 h3 h4 h5 h1⟩
    · obtain ⟨A3, E3⟩ := unlock_ok A1 A2 E2
      exact g1 H2 S2 (.ref Dn) A3 (E1.trans E3) ⟨Dn, rfl, sD, ⟨us, hus, ru⟩, fun z => nD (had_unlk z), E1.tr Dn hD⟩
/-- [.. for .. in .. if ..] -/
theorem de_comp (hc : X.calm = true) (hN : X.N.Nodup) (hi : DI X W tg iter fi) (ok : BlkOk X.N X.env.scope scope own)
    (hg : ∀ (s : Shared) (H : Hp) (C : Addr) (cl : List (Str × Addr)) (fp : List Addr), DG (X.blk s H scope (compEnvC scope cl C X.env) fp) (outside (own.map (·.2))) tg g)
    (ht : ∀ (s : Shared) (H : Hp) (C : Addr) (cl : List (Str × Addr)) (fp : List Addr), DTs (X.blk s H scope (compEnvC scope cl C X.env) fp) noW ifs t)
    (he : ∀ (s : Shared) (H : Hp) (C : Addr) (cl : List (Str × Addr)) (fp : List Addr), DE (X.blk s H scope (compEnvC scope cl C X.env) fp) noW elt fe) (hs : ∀ x, foldedSetIterable iter X.env x = pure x := by intro _; rfl) :
    DE X W (.ListComp elt [⟨tg, iter, ifs, 0⟩] scope pos) (dComp fi (own.map (·.2)) g t fe) :=
  ⟨PE.weak (pe_lc hc hN hi.pi ok (fun s H C cl fp => (hg s H C cl fp).pg) (fun s H C cl fp => (ht s H C cl fp).pts) (fun s H C cl fp => (he s H C cl fp).pe) hs) fun _ _ _ h => comp_tLc h⟩
/-- x = [..], x a local -/
theorem ds_setC {i : Nat} {y : Str} {py spos : Pos} (hi' : np ≤ i) (hc : X.calm = true) (hN : X.N.Nodup) (hy : X.N[i]? = some y) (hyl : X.env.scope.names.lookup y = some .local)
    (hsw : swapsWith (.ListComp elt [⟨tg, iter, ifs, 0⟩] scope pos) (some (.Name y py)) spos.line X.env = pure true) (hi : DI X W tg iter fi) (ok : BlkOk X.N X.env.scope scope own)
    (hg : ∀ (s : Shared) (H : Hp) (C : Addr) (cl : List (Str × Addr)) (fp : List Addr), DG (X.blk s H scope (compEnvC scope cl C X.env) fp) (outside (own.map (·.2))) tg g)
    (ht : ∀ (s : Shared) (H : Hp) (C : Addr) (cl : List (Str × Addr)) (fp : List Addr), DTs (X.blk s H scope (compEnvC scope cl C X.env) fp) noW ifs t)
    (he : ∀ (s : Shared) (H : Hp) (C : Addr) (cl : List (Str × Addr)) (fp : List Addr), DE (X.blk s H scope (compEnvC scope cl C X.env) fp) noW elt fe) (hs : ∀ x, foldedSetIterable iter X.env x = pure x := by intro _; rfl) :
    DS X W np (.Assign [.Name y py] (.ListComp elt [⟨tg, iter, ifs, 0⟩] scope pos) spos) (sSet i (dComp fi (own.map (·.2)) g t fe)) :=
  ⟨PS.weak (ps_setLc hc hN hy hyl hsw hi.pi ok (fun s H C cl fp => (hg s H C cl fp).pg) (fun s H C cl fp => (ht s H C cl fp).pts) (fun s H C cl fp => (he s H C cl fp).pe) hs) fun D σ H ⟨S, e, A, k⟩ => by
    refine comp_tLc (W := W) (t := t) (g := g) (fe := fe) (Q := fun w H' => D.nx (σ.set i (some w)) H') ?_
    refine sBind.step A k fun v e' H' S' w A' E' hv gl => ?_
    exact set_le hi' A' E' hv gl⟩
end
end DL

set_option maxHeartbeats 4000000
/-! DL11: short words for printed terms; chains of comparisons. -/
namespace DL
open PySem PySem.Spec PyProof.Rows L2
variable [TabsT]
section
variable {X : Cx} {W : WX} {pos : Pos}
theorem dv (i : Nat) {x : Str} (hN : X.N[i]? = some x := by rfl) (hv : Vis X.env.scope x := by first | exact Or.inl rfl | exact Or.inr (Or.inl rfl) | exact Or.inr (Or.inr rfl)) (hd : (x == ("__debug__" : Str)) = false := by decide)
    (hcd : (x == ("__classdict__" : Str)) = false := by decide) : DE X W (.Name x pos) (dVar i) := de_var hN hv hd hcd
theorem dgi {x : Str} {i : Int} (h : ∃ t, X.mg x = some (.int i t)) (hg : Gl X x := by rfl) (hd : (x == ("__debug__" : Str)) = false := by decide) : DE X W (.Name x pos) (dC (.int i)) := by
  obtain ⟨t, h⟩ := h
  exact de_glob (v := .int i) hg h ⟨t, rfl⟩ (fun _ => rep_int.mpr rfl) hd
/-- a < b < c, of ints -/
def dChain (p q : Int → Int → Bool) (fa fb fc : M Val) : M Val := M.bind fa fun u => M.bind fb fun v => M.bind (fixV u) fun u e => match vwD e u, vwD e v with
  | some (.int i), some (.int j) => if p i j = true then (M.bind fc fun w => M.bind (fixV v) fun v e => match vwD e v, vwD e w with
    | some (.int j), some (.int k) => .ok (.d (.bl (q j k))) e
    | _, _ => .bad) e else .ok (.d (.bl false)) e
  | _, _ => .bad
theorem chain_le {K : PySem.W.Frag} {p q : Int → Int → Bool} {fa fb fc : M Val} {σ : St} {H : Hp} {Q : VK} (h : tD K W (dChain p q fa fb fc) σ H Q) :
    tChain (rI0 fun i j => .bl (p i j)) (rI0 fun i j => .bl (q i j)) (tD K W fa) (tD K W fb) (tD K W fc) σ H Q := by
  obtain ⟨S, e, A, g⟩ := h
  refine tDx.step A Ext.refl g fun u e1 H1 S1 w1 A1 E1 E1' v1 g1 => ?_
  refine tDx.step A1 E1 g1 fun v e2 H2 S2 w2 A2 E2 E2' v2 g2 => ?_
  refine fix_step v1 E2' A2 g2 fun u' v1' g3 => ?_
  split at g3
  · rename_i i j q1 q2
    refine ⟨i, j, v1'.int A2 q1, v2.int A2 q2, p i j, rfl, ?_⟩
    split at g3
    · rename_i hp
      rw [if_pos hp]
      refine tDx.step A2 E2 g3 fun w e3 H3 S3 w3 A3 E3 E3' v3 g4 => ?_
      refine fix_step (v2.base E1'.tr) E3' A3 g4 fun v' v2' g5 => ?_
      split at g5
      · rename_i j' k q3 q4
        exact ⟨j', k, v2'.int A3 q3, v3.int A3 q4, fin_d A3 E3 (rep_bl.mpr rfl) g5⟩
      · exact g5.elim
    · rename_i hp
      have hp : p i j = false := by simpa using hp
      rw [hp, if_neg Bool.false_ne_true]
      exact fin_d A2 E2 (rep_bl.mpr rfl) g3
  · exact g3.elim
variable {a b c : Expr} {fa fb fc : M Val} {p q : Int → Int → Bool} {o1 o2 : CmpOp}
theorem de_chain (h1 : OpR X (compareOp o1) (rI0 fun i j => .bl (p i j))) (h2 : OpR X (compareOp o2) (rI0 fun i j => .bl (q i j))) (ha : DE X W a fa) (hb : DE X W b fb) (hc : DE X W c fc) (hm : lastMarks [o1, o2] [b, c] = false := by with_unfolding_all rfl) :
    DE X W (.Compare a [o1, o2] [b, c] pos) (dChain p q fa fb fc) := ⟨PE.weak (pe_chain h1 h2 ha.pe hb.pe hc.pe hm) fun _ _ _ h => chain_le h⟩
theorem dt_chain (h1 : OpR X (compareOp o1) (rI0 fun i j => .bl (p i j))) (h2 : OpR X (compareOp o2) (rI0 fun i j => .bl (q i j))) (ha : DE X W a fa) (hb : DE X W b fb) (hc : DE X W c fc) (hm : lastMarks [o1, o2] [b, c] = false := by with_unfolding_all rfl) :
    DT X W (.Compare a [o1, o2] [b, c] pos) (dAsk (dChain p q fa fb fc)) := ⟨PT.weak (pt_chain h1 h2 ha.pe hb.pe hc.pe hm) fun _ _ _ h => chain_le (ask_le h)⟩
abbrev cLe : Int → Int → Bool := fun i j => decide (i ≤ j)
abbrev cLt : Int → Int → Bool := fun i j => decide (i < j)
end
/-! ### a def that may be called -/
structure Callee (P : Program) (w : World) (K : PySem.W.Frag) (mg : Str → Option Value) (base : Heap) (x : Str) (k : Nat) (ps : List Str) (F : M Val) : Prop where
  ex : ∃ fd, mg x = some (.ref (He.ga K x)) ∧ PySem.W.keepIn K (.ref (He.ga K x)) = true ∧ Binds K fd ps [] ∧ DFn P w K mg base k (He.ga K x) fd ps F
section
variable {X : Cx} {W : WX} {pos p : Pos} {ex : Expr} {es : List Expr} {fs : M (List Val)} {F : M Val} {x : Str} {k : Nat} {ps : List Str}
/-- f(..), every argument given -/
theorem dcall (C : Callee X.prog X.w X.K X.mg X.base x k ps F) (hr : Room k X.A) (tk : Takes X W) (ha : DA X W (ex :: es) fs) (hg : Gl X x := by rfl) (hdb : (x == ("__debug__" : Str)) = false := by decide)
    (he : starEach (ex :: es) X.env = (false, eval ex X.env) :: starEach es X.env := by rfl) (hpl : (backTo pos (starEach es X.env)).any (·.1) = false := by rfl) :
    DE X W (.Call (.Name x p) (ex :: es) [] pos) (dFn F [] fs) := by
  obtain ⟨fd, hm, hk, hb, G⟩ := C.ex
  exact de_call G hr hg hm hk hb .nil (fun _ => .nil) tk ha hdb he hpl
/-- a built-in by its name -/
theorem dbi {op : List Val → M Val} {r : List V → Hp → VK → Prop} {id : String} (hm : X.mg x = none) (hc : CallR X (.builtin id) r) (hd : CallD X.K op r) (ha : DA X W (ex :: es) fs) (hv : bootBuiltins x = some (.builtin id) := by decide +kernel) (hg : Gl X x := by rfl) (hn : x ≠ "__name__" := by decide) (hdb : (x == ("__debug__" : Str)) = false := by decide)
    (he : starEach (ex :: es) X.env = (false, eval ex X.env) :: starEach es X.env := by rfl) (hpl : (backTo pos (starEach es X.env)).any (·.1) = false := by rfl) : DE X W (.Call (.Name x p) (ex :: es) [] pos) (dCall op fs) := de_callB hc hd hg hm hv ha hn hdb he hpl
theorem dty {op : List Val → M Val} {r : List V → Hp → VK → Prop} {T : String} (hm : X.mg x = none) (hc : CallR X (.type T) r) (hd : CallD X.K op r) (ha : DA X W (ex :: es) fs) (hv : bootBuiltins x = some (.type T) := by decide +kernel) (hg : Gl X x := by rfl) (hn : x ≠ "__name__" := by decide) (hdb : (x == ("__debug__" : Str)) = false := by decide)
    (he : starEach (ex :: es) X.env = (false, eval ex X.env) :: starEach es X.env := by rfl) (hpl : (backTo pos (starEach es X.env)).any (·.1) = false := by rfl) : DE X W (.Call (.Name x p) (ex :: es) [] pos) (dCall op fs) := de_callTy hc hd hg hm hv ha hn hdb he hpl
theorem dtyN {n : String} (hm : X.mg x = none) (hv : bootBuiltins x = some (.type n) := by decide +kernel) (hg : Gl X x := by rfl) (hn : x ≠ "__name__" := by decide) (hd : (x == ("__debug__" : Str)) = false := by decide) : DE X W (.Name x p) (dC (.ty n)) := de_bltn hg hm hv hn hd
end
/-- the names of a body's wishes -/
theorem tk_def {P : Program} {w : World} {K : PySem.W.Frag} {mg : Str → Option Value} {base : Heap} {N : List Str} {q : Str} {sc : Scope} {f : Addr} {cd : Value} {A : Around} {outer : List PySem.Env} {s : Shared} {H : Hp} {E : XK} :
    Takes (cxOf (L2.CX P w) P w K mg base N q sc f cd A outer s H E) (fun c d _ H' => E c d H') := takes_of rfl rfl rfl rfl
theorem po_def {P : Program} {w : World} {K : PySem.W.Frag} {mg : Str → Option Value} {base : Heap} {N : List Str} {q : Str} {sc : Scope} {f : Addr} {cd : Value} {A : Around} {outer : List PySem.Env} {s : Shared} {H : Hp} {E : XK} :
    PassesOwn (model P w) (cxOf (L2.CX P w) P w K mg base N q sc f cd A outer s H E).A (cxOf (L2.CX P w) P w K mg base N q sc f cd A outer s H E).env (cxOf (L2.CX P w) P w K mg base N q sc f cd A outer s H E).xe :=
  passes_of (X := cxOf (L2.CX P w) P w K mg base N q sc f cd A outer s H E) rfl
end DL
namespace DL
open PySem PySem.Spec PyProof.Rows L2
variable [TabsT]
theorem hu64 {k : Nat} {A : Around} (hr : Room k A) : A.units + 64 < cLine := hr.units
theorem hu65 {k : Nat} {A : Around} (hr : Room k A) : A.units + 65 < cLine := by have := hr.un; omega
end DL

set_option maxHeartbeats 4000000
/-! DL12: enumerate, zip of two and of three, over lists and tuples in any mix. -/
namespace DL
open PySem PySem.Spec PyProof.Rows L2
variable [TabsT]

/-! ### a source: at its address, a tuple or a list -/
def SqB (K : PySem.W.Frag) (b : Bool × Addr) (H : Hp) (vs : List V) : Prop := match b.1 with
  | true => SqT K H b.2 vs
  | false => SqL K H b.2 vs
def coreB (b : Bool × Addr) (it : Addr) (i : Nat) (h : Heap) : Prop := match b.1 with
  | true => h.IsTupleIter it b.2 i
  | false => h.IsListIter it b.2 i
def isB (b : Bool × Addr) (its : Array Value) (h : Heap) : Prop := match b.1 with
  | true => h.IsTuple b.2 its
  | false => h.IsList b.2 its
def objB (b : Bool × Addr) : Obj := match b.1 with
  | true => { cls := .type "tuple_iterator", data := .fields #[.ref b.2, .int 0 0] }
  | false => { cls := .type "list_iterator", data := .fields #[.ref b.2, .int 0 0] }
theorem beginsB (b : Bool × Addr) (its : Array Value) : Begins (.ref b.2) (objB b) (isB b its) := by
  obtain ⟨k, a⟩ := b
  cases k with
  | true => exact begins_tuple a its
  | false => exact begins_list a its
theorem drawsB {P : Program} {w : World} {A : Around} (hh : A.handled = none) (b : Bool × Addr) (it : Addr) (hne : b.2 ≠ it) (items : Array Value) :
    Draws P w A it [it, b.2] items.size (fun i v => items[i]? = some v) (fun i h => coreB b it i h ∧ isB b items h) := by
  obtain ⟨k, a⟩ := b
  cases k with
  | true => exact Draws.tuple hh it a hne items
  | false => exact Draws.list hh it a hne items
theorem coreB.at {b : Bool × Addr} {it : Addr} {i : Nat} {h h' : Heap} (x : coreB b it i h) (k : ∀ o, h.get? it = some o → h'.get? it = some o) : coreB b it i h' := by
  obtain ⟨c, a⟩ := b
  cases c with
  | true => exact Heap.IsTupleIter.at x k
  | false => exact Heap.IsListIter.at x k
theorem coreB.obj {b : Bool × Addr} {it : Addr} {i : Nat} {h : Heap} (x : coreB b it i h) : ∃ o, h.get? it = some o ∧ ∀ v, o.data ≠ .cell v := by
  obtain ⟨c, a⟩ := b
  cases c with
  | true => exact let ⟨o, ho, _, hd⟩ := x; ⟨o, ho, fun v q => by rw [hd] at q; cases q⟩
  | false => exact let ⟨o, ho, _, hd⟩ := x; ⟨o, ho, fun v q => by rw [hd] at q; cases q⟩
theorem coreB.begin {b : Bool × Addr} {it : Addr} {h : Heap} (x : h.get? it = some (objB b)) : coreB b it 0 h := by
  obtain ⟨c, a⟩ := b
  cases c with
  | true => exact ⟨_, x, rfl, rfl⟩
  | false => exact ⟨_, x, rfl, rfl⟩
section
variable {X : Cx} {pins : List (Addr × Obj)} {σ : St} {H : Hp} {s : Shared}
theorem SqB.inv {b : Bool × Addr} {vs : List V} (q : SqB X.K b H vs) (I : Inv X pins σ H s) : ∃ its : List Value, Vals vs its ∧ isB b its.toArray s.heap ∧ b.2 < s.heap.objs.size := by
  obtain ⟨c, a⟩ := b
  cases c with
  | true =>
    obtain ⟨its, r, p, _⟩ := I.tuple q
    obtain ⟨o, ho, _⟩ := id p
    exact ⟨its, r, p, Heap.lt_size ho⟩
  | false =>
    obtain ⟨its, r, p, _⟩ := I.list q
    exact ⟨its, r, p.isList, p.lt⟩
theorem SqB.inj {b : Bool × Addr} {vs vs' : List V} (q : SqB X.K b H vs) (q' : SqB X.K b H vs') (I : Inv X pins σ H s) : vs = vs' := by
  obtain ⟨c, a⟩ := b
  cases c with
  | true => exact I.tuple_inj q q'
  | false => exact I.list_inj q q'
end

/-! ### a GoesN is a Turn -/
theorem turn_goes {P : Program} {w : World} {K : PySem.W.Frag} {tg : Expr} {J : It} {fp wr : List Addr} {it : Addr} {tn : Nat → Heap → Prop} (mem : it ∈ fp) (sub : ∀ b ∈ wr, b ∈ fp)
    (obj : ∀ i h, tn i h → ∀ b ∈ fp, ∃ o, h.get? b = some o ∧ ∀ v, o.data ≠ .cell v) (keep : ∀ i h h', tn i h → (∀ b ∈ fp, ∀ o, h.get? b = some o → h'.get? b = some o) → tn i h')
    (self : ∀ (A : Around) (i : Nat) (s : Shared) (Q : Value → Shared → Prop) (E : Value → Shared → Prop), tn i s.heap → Q (.ref it) s → wpAny (model P w) A (pyIter (.ref it)) Q E s)
    (item : ∀ (X : Cx), X.prog = P → X.w = w → X.K = K → X.A.handled = none → ∀ i pins s σ H, Inv X pins σ H s → tn i s.heap → J.go i H → ∃ fpg n Y St, GoesN P w X.A tg it fpg wr n Y St ∧ i < n ∧ St i s.heap ∧ (∀ h', St (i + 1) h' → tn (i + 1) h') ∧
      ∀ v h', Y i s.heap v h' → ∃ T xs us, v = .ref T ∧ s.heap.objs.size ≤ T ∧ h'.IsTuple T (us : List Value).toArray ∧ Vals xs us ∧ xs.length ≤ sizeLine ∧ (H T = none → J.yld i H (.ref T) (upd H T (.tup xs))))
    (done : ∀ (X : Cx), X.prog = P → X.w = w → X.K = K → X.A.handled = none → ∀ i pins s σ H, Inv X pins σ H s → tn i s.heap → J.stop i H → ∃ fpg Y St, GoesN P w X.A tg it fpg wr i Y St ∧ St i s.heap) :
    Turn P w K tg J fp it tn where
  mem := mem
  obj := obj
  keep := keep
  self := self
  item := by
    intro X hP hw hK hc i pins s σ H E I hf st hg
    obtain ⟨fpg, n, Y, St, G, hi, hst, back, hY⟩ := item X hP hw hK (I.ok.hd hc) i pins s σ H I st hg
    subst hP hw hK
    refine G.goes i s (fun u s2 => ∃ x H', Inv X pins σ H' s2 ∧ RelV x u ∧ J.yld i H x H' ∧ tn (i + 1) s2.heap ∧ ∀ b ∈ fp, H' b = none) E hi hst fun v h' tk y st' hk _ => ?_
    obtain ⟨T, xs, us, rfl, hT, hTu, hv, hl, hyl⟩ := hY v h' y
    have new : ObjOk X.prog X.w (upd H T (.tup xs)) h' T (.tup xs) := ⟨hl, us, hv, hTu⟩
    have I1 := I.turnedNew (t' := tk) (ch := wr) hk (fun b hb => hf b (sub b hb)) hT new
    refine ⟨.ref T, _, I1, rfl, hyl (I.hok.fresh hT), back h' st', fun b hb => ?_⟩
    obtain ⟨o, ho, _⟩ := obj i s.heap st b hb
    rw [upd_ne (Nat.ne_of_lt (Nat.lt_of_lt_of_le (Heap.lt_size ho) hT))]
    exact (hf b hb).1
  done := by
    intro X hP hw hK hc i pins s σ H E I hf st hg
    obtain ⟨fpg, Y, St, G, hst⟩ := done X hP hw hK (I.ok.hd hc) i pins s σ H I st hg
    subst hP hw hK
    exact G.stops s (fun s1 => Inv X pins σ H s1) E hst fun h' tk hk _ => I.turnedL (t' := tk) (ch := wr) hk (fun b hb => hf b (sub b hb))

/-! ### enumerate -/
def ItE (K : PySem.W.Frag) (b : Bool × Addr) : It :=
  ⟨fun i H => ∃ (vs : List V) (x : V), SqB K b H vs ∧ vs[i]? = some x, fun i H v H' => ∃ T x, v = .ref T ∧ H T = none ∧ H' = upd H T (.tup [.int (i : Nat), x]) ∧ ∀ vs, SqB K b H vs → vs[i]? = some x, fun i H => ∃ vs : List V, SqB K b H vs ∧ i = vs.length⟩
theorem toArray_some {its : List Value} {i : Nat} {u : Value} (h : its.toArray[i]? = some u) : its[i]? = some u := by simpa using h
theorem vals_at {vs : List V} {its : List Value} {i : Nat} {x : V} {u : Value} (r : Vals vs its) (h : vs[i]? = some x) (hu : its.toArray[i]? = some u) : RelV x u := by
  obtain ⟨u', h', r'⟩ := r.get h
  rw [toArray_some hu] at h'
  cases h'
  exact r'
theorem turn_enumB {P : Program} {w : World} {K : PySem.W.Frag} {elts : List Expr} {kk : Nat} {tpos : Pos} {b : Bool × Addr} {e it : Addr} (h1 : e ≠ it) (h2 : b.2 ≠ it) (h3 : b.2 ≠ e) :
    Turn P w K (.Tuple elts kk tpos) (ItE K b) [e, it] e (fun i h => (∃ old, IsEnum h e it ((i : Nat) : Int) old) ∧ coreB b it i h) := by
  have E0 : ∀ i : Nat, (0 : Int) + (i : Int) = (i : Nat) := fun i => Int.zero_add _
  have nm : e ∉ [it, b.2] := fun z => by
    rcases List.mem_cons.mp z with z | z
    · exact h1 z
    · exact h3 (List.mem_singleton.mp z).symm
  refine turn_goes (wr := [e, it]) (by simp) (fun b hb => hb) (fun i h st c hc => ?_) (fun i h h' st k => ?_) (fun A i s Q E st h => let ⟨⟨_, he⟩, _⟩ := st; wpAny_pyIter_enum he h) ?_ ?_
  · obtain ⟨⟨old, he⟩, hi⟩ := st
    have e' : c = e ∨ c = it := by simpa using hc
    rcases e' with z | z
    · rw [z]; exact ⟨_, he, fun v q => nomatch q⟩
    · rw [z]; exact hi.obj
  · obtain ⟨⟨old, he⟩, hi⟩ := st
    exact ⟨⟨old, k e (by simp) _ he⟩, hi.at fun o q => k it (by simp) o q⟩
  · intro X hP hw hK hh i pins s σ H I st hg
    subst hK
    obtain ⟨⟨old, he⟩, hi⟩ := st
    obtain ⟨vs, x, q, hx⟩ := hg
    obtain ⟨its, r, p, hlt⟩ := q.inv I
    obtain ⟨u, hu, ru⟩ := r.get hx
    have hil : i < its.toArray.size := by rw [List.size_toArray]; exact (List.getElem?_eq_some_iff.mp hu).1
    refine ⟨_, _, _, _, GoesN.enumFrom 0 (drawsB (A := X.A.in1) hh b it h2 its.toArray) e h1 nm (by simp), hil, ⟨⟨old, by rw [E0]; exact he⟩, hi, p⟩, fun h' st' => ?_, fun v h' y => ?_⟩
    · obtain ⟨⟨o', e'⟩, c', _⟩ := st'
      rw [E0] at e'
      exact ⟨⟨o', e'⟩, c'⟩
    · obtain ⟨T, t, u', rfl, hT, hu', hTT⟩ := y
      rw [E0] at hTT
      exact ⟨T, [.int (i : Nat), x], [.int (i : Nat) t, u'], rfl, hT, hTT, .cons ⟨_, rfl⟩ (.cons (vals_at r hx hu') .nil), by show 2 ≤ sizeLine; decide, fun hn => ⟨T, x, rfl, hn, rfl, fun ys hy => by rw [hy.inj q I]; exact hx⟩⟩
  · intro X hP hw hK hh i pins s σ H I st hg
    subst hK
    obtain ⟨⟨old, he⟩, hi⟩ := st
    obtain ⟨vs, q, rfl⟩ := hg
    obtain ⟨its, r, p, hlt⟩ := q.inv I
    have hl : vs.length = its.toArray.size := by rw [List.size_toArray]; exact r.length
    have G := GoesN.enumFrom (prog := P) (w := w) (A := X.A) (elts := elts) (x1 := kk) (pos := tpos) 0 (drawsB (A := X.A.in1) hh b it h2 its.toArray) e h1 nm (by simp)
    rw [← hl] at G
    exact ⟨_, _, _, G, ⟨old, by rw [E0]; exact he⟩, hi, p⟩
theorem meets_enumerate_newB1 {v : Value} {o : Obj} {H : Heap → Prop} (B : Begins v o H) :
    Meets (Builtin.«enumerate.__new__» ⟨[.type "enumerate", v], []⟩) (fun _ R s => H s.heap ∧
      R (.ok (.ret (.ref (s.heap.push o).objs.size))) { s with heap := (s.heap.push o).push { cls := .type "enumerate", data := .fields #[.none, .bool false, .ref s.heap.objs.size, rawInt 0, .none, .none] } }) :=
  .of_wp fun prog w A R s h => by
    obtain ⟨hp, g, d, tk, os⟩ := s; obtain ⟨h1, h⟩ := h
    have hsub := sub_enumerate
    have q1 : ∀ {A' : Around} {E : Value → Shared → Prop} {Q : Value → Shared → Prop}, Q (.ref hp.objs.size) ⟨hp.push o, g, d, tk, os⟩ → wpAny (model prog w) A' (pyIter v) Q E ⟨hp, g, d, tk, os⟩ :=
      fun q => B.iter prog w _ _ ⟨hp, g, d, tk, os⟩ _ h1 q
    wp_walk using q1
    refine wpAny_stack_any fun st => wpAny_pure ?_
    split
    · rename_i c _ _ _ _ _
      cases (c == Value.type "enumerate")
      · wp_walk using q1
        exact ⟨_, rfl, h⟩
      · wp_walk using q1
        exact ⟨_, rfl, h⟩
    · wp_walk using q1
      exact ⟨_, rfl, h⟩
theorem enum_begins1 {prog : Program} {w : World} {A : Around} {E : Value → Shared → Prop} {s : Shared} {v : Value} {o : Obj} {H : Heap → Prop} {Q : Value → Shared → Prop} (B : Begins v o H) (h1 : H s.heap)
    (h : ∀ h', IsEnum h' (s.heap.objs.size + 1) s.heap.objs.size 0 .none → h'.get? s.heap.objs.size = some o → h'.objs.size = s.heap.objs.size + 2 →
      (∀ b o, s.heap.get? b = some o → h'.get? b = some o) → Q (.ref (s.heap.objs.size + 1)) { s with heap := h' }) :
    wpAny (model prog w) A (call (.type "enumerate") [v]) Q E s := by
  refine callType_new F.called_enumerate (by decide) (F.typeCall_enumerate_1 _) (F.newCall_enumerate_1 _) (fun obj => F.args_object_init_2 obj _) F.entry_enumerate_new
    (meets_enumerate_newB1 B) ⟨h1, ?_⟩
  have hz : (s.heap.push o).objs.size = s.heap.objs.size + 1 := Heap.size_push ..
  show _ ∧ _
  rw [hz]
  have he : IsEnum ((s.heap.push o).push { cls := .type "enumerate", data := .fields #[.none, .bool false, .ref s.heap.objs.size, rawInt 0, .none, .none] }) (s.heap.objs.size + 1) s.heap.objs.size 0 .none := by
    have := Heap.get?_push_size (s.heap.push o) (o := { cls := .type "enumerate", data := .fields #[.none, .bool false, .ref s.heap.objs.size, rawInt 0, .none, .none] }) rfl
    rw [hz] at this; exact this
  refine ⟨⟨_, he, rfl⟩, h _ he (Heap.get?_push_of_some _ (Heap.get?_push_size _ B.free)) (by rw [Heap.size_push, hz]) fun b o x => Heap.get?_push_of_some _ (Heap.get?_push_of_some _ x)⟩
def iEnumB (K : PySem.W.Frag) (ta : TA) : TI := fun σ H R => ta σ H fun vs H1 => ∃ b xs, vs = [.ref b.2] ∧ SqB K b H1 xs ∧ R (ItE K b) H1
theorem pi_enumB {X : Cx} {e : Expr} {ta : TA} {p pos tpos : Pos} {elts : List Expr} {kk : Nat} (hg : Gl X "enumerate") (hm : X.mg "enumerate" = none) (ha : PA X [e] ta) (hs : starEach [e] X.env = [(false, eval e X.env)] := by rfl) :
    PI X (.Tuple elts kk tpos) (.Call (.Name "enumerate" p) [e] [] pos) (iEnumB X.K ta) := by
  refine ⟨fun pins s σ H R I h => ?_⟩
  refine Call_ (ld_blt I hg hm boot_enumerate (PyProof.Rows.callWith_type1 (thn (ha.run pos pins s σ H _ I h) fun us s1 ⟨vs, H1, I1, r1, q1⟩ => ?_) hs rfl))
  obtain ⟨b, xs, rfl, q, k⟩ := q1
  cases r1 with
  | cons r rr =>
    cases rr
    cases r
    obtain ⟨its, rv, p', hlt⟩ := q.inv I1
    have n1 : s1.heap.objs.size + 1 ≠ s1.heap.objs.size := Nat.succ_ne_self _
    refine enum_begins1 (beginsB b its.toArray) p' fun h' he hit hsz hk => wpAny_pyIter_enum he ?_
    have I2 : Inv X pins σ H1 { s1 with heap := h' } := I1.kept (t' := s1.toks) hk
    refine ⟨s1.heap.objs.size + 1, [s1.heap.objs.size + 1, s1.heap.objs.size], _, _, H1, rfl, I2, turn_enumB n1 (Nat.ne_of_lt hlt) (Nat.ne_of_lt (Nat.lt_succ_of_lt hlt)), ⟨⟨.none, he⟩, coreB.begin hit⟩, fun c hc => ?_, k⟩
    have e' : c = s1.heap.objs.size + 1 ∨ c = s1.heap.objs.size := by simpa using hc
    have hle : s1.heap.objs.size ≤ c := by
      rcases e' with z | z
      · rw [z]; exact Nat.le_add_right _ _
      · rw [z]; exact Nat.le_refl _
    exact I1.fpOk hle (I1.hok.fresh hle)

/-! ### zip of two -/
def ItZ2 (K : PySem.W.Frag) (a b : Bool × Addr) : It :=
  ⟨fun i H => ∃ (xs ys : List V), SqB K a H xs ∧ SqB K b H ys ∧ i < xs.length ∧ i < ys.length,
    fun i H v H' => ∃ T x y, v = .ref T ∧ H T = none ∧ H' = upd H T (.tup [x, y]) ∧ (∀ xs, SqB K a H xs → xs[i]? = some x) ∧ ∀ ys, SqB K b H ys → ys[i]? = some y,
    fun i H => ∃ xs ys : List V, SqB K a H xs ∧ SqB K b H ys ∧ i = min xs.length ys.length⟩
theorem arr_at {vs : List V} {its : List Value} {i : Nat} (r : Vals vs its) (h : i < vs.length) : i < its.toArray.size := by rw [List.size_toArray, ← r.length]; exact h
theorem vals_ix {vs : List V} {its : List Value} {i : Nat} {u : Value} (r : Vals vs its) (h : i < vs.length) (hu : its.toArray[i]? = some u) : RelV vs[i] u := vals_at r (List.getElem?_eq_getElem h) hu
theorem turn_zipB {P : Program} {w : World} {K : PySem.W.Frag} {elts : List Expr} {kk : Nat} {tpos : Pos} {a b : Bool × Addr} {z TI TO i1 i2 : Addr} (ha : a.2 ≠ i1) (hb : b.2 ≠ i2) (D : ZipSep2 z TI TO i1 i2 [i1, a.2] [i2, b.2]) :
    Turn P w K (.Tuple elts kk tpos) (ItZ2 K a b) [z, TI, TO, i1, i2] z (fun i h => IsZip h z TI TO .none ∧ IsTupOf2 h TI (.ref i1) (.ref i2) ∧ (∃ x y, IsTupOf2 h TO x y) ∧ coreB a i1 i h ∧ coreB b i2 i h) := by
  refine turn_goes (wr := [z, TO, i1, i2]) (by simp) (fun c hc => ?_) (fun i h st c hc => ?_) (fun i h h' st k => ?_) (fun A i s Q E st h => wpAny_pyIter_zip st.1 h) ?_ ?_
  · have e' : c = z ∨ c = TO ∨ c = i1 ∨ c = i2 := by simpa using hc
    rcases e' with q | q | q | q <;> (rw [q]; simp)
  · obtain ⟨hz, hTI, ⟨x, y, hTO⟩, h1, h2⟩ := st
    have e' : c = z ∨ c = TI ∨ c = TO ∨ c = i1 ∨ c = i2 := by simpa using hc
    rcases e' with q | q | q | q | q
    · rw [q]; exact ⟨_, hz, fun v q => nomatch q⟩
    · rw [q]; exact ⟨_, hTI, fun v q => nomatch q⟩
    · rw [q]; exact ⟨_, hTO, fun v q => nomatch q⟩
    · rw [q]; exact h1.obj
    · rw [q]; exact h2.obj
  · obtain ⟨hz, hTI, ⟨x, y, hTO⟩, h1, h2⟩ := st
    exact ⟨k z (by simp) _ hz, k TI (by simp) _ hTI, ⟨x, y, k TO (by simp) _ hTO⟩, h1.at fun o q => k i1 (by simp) o q, h2.at fun o q => k i2 (by simp) o q⟩
  · intro X hP hw hK hh i pins s σ H I st hg
    subst hK
    obtain ⟨hz, hTI, hTO, h1, h2⟩ := st
    obtain ⟨xs, ys, qx, qy, lx, ly⟩ := hg
    obtain ⟨its, r, p, _⟩ := qx.inv I
    obtain ⟨its2, r2, p2, _⟩ := qy.inv I
    refine ⟨_, _, _, _, GoesN.zip2 D (drawsB (A := X.A.in1) hh a i1 ha its.toArray) (drawsB (A := X.A.in1) hh b i2 hb its2.toArray), Nat.lt_min.mpr ⟨arr_at r lx, arr_at r2 ly⟩, ⟨hz, hTI, hTO, ⟨h1, p⟩, h2, p2⟩, fun h' st' => ?_, fun v h' y => ?_⟩
    · obtain ⟨a1, a2, a3, ⟨a4, _⟩, a5, _⟩ := st'
      exact ⟨a1, a2, a3, a4, a5⟩
    · obtain ⟨T, u1, u2, rfl, hT, e1, e2, hTT⟩ := y
      exact ⟨T, [xs[i], ys[i]], [u1, u2], rfl, hT, hTT, .cons (vals_ix r lx e1) (.cons (vals_ix r2 ly e2) .nil), by show 2 ≤ sizeLine; decide,
        fun hn => ⟨T, _, _, rfl, hn, rfl, fun l hl => by rw [hl.inj qx I]; exact List.getElem?_eq_getElem lx, fun l hl => by rw [hl.inj qy I]; exact List.getElem?_eq_getElem ly⟩⟩
  · intro X hP hw hK hh i pins s σ H I st hg
    subst hK
    obtain ⟨hz, hTI, hTO, h1, h2⟩ := st
    obtain ⟨xs, ys, qx, qy, hi⟩ := hg
    obtain ⟨its, r, p, _⟩ := qx.inv I
    obtain ⟨its2, r2, p2, _⟩ := qy.inv I
    have G := GoesN.zip2 (prog := P) (w := w) (A := X.A) (elts := elts) (x1 := kk) (pos := tpos) D (drawsB (A := X.A.in1) hh a i1 ha its.toArray) (drawsB (A := X.A.in1) hh b i2 hb its2.toArray)
    rw [List.size_toArray, List.size_toArray, ← r.length, ← r2.length, ← hi] at G
    exact ⟨_, _, _, G, hz, hTI, hTO, ⟨h1, p⟩, h2, p2⟩
def iZipB (K : PySem.W.Frag) (ta : TA) : TI := fun σ H R => ta σ H fun vs H1 => ∃ a b xs ys, vs = [.ref a.2, .ref b.2] ∧ SqB K a H1 xs ∧ SqB K b H1 ys ∧ R (ItZ2 K a b) H1
theorem lt_one {a N : Nat} (h : a < N) : ∀ b ∈ [a], b < N := fun b hb => by rw [List.mem_singleton.mp hb]; exact h
theorem pi_zipB {X : Cx} {e e2 : Expr} {ta : TA} {p pos tpos : Pos} {elts : List Expr} {kk : Nat} (hg : Gl X "zip") (hm : X.mg "zip" = none) (ha : PA X [e, e2] ta)
    (hs : starEach [e, e2] X.env = (false, eval e X.env) :: starEach [e2] X.env := by rfl) (hpl : (backTo pos (starEach [e2] X.env)).any (·.1) = false := by rfl) :
    PI X (.Tuple elts kk tpos) (.Call (.Name "zip" p) [e, e2] [] pos) (iZipB X.K ta) := by
  refine ⟨fun pins s σ H R I h => ?_⟩
  refine Call_ (ld_blt I hg hm PyProof.Rows.boot_zip (PyProof.Rows.callWith_type1 (thn (ha.run pos pins s σ H _ I h) fun us s1 ⟨vs, H1, I1, r1, q1⟩ => ?_) hs hpl))
  obtain ⟨a, b, xs, ys, rfl, qx, qy, k⟩ := q1
  cases r1 with
  | cons r rr =>
    cases rr with
    | cons r' rr =>
      cases rr
      cases r
      cases r'
      obtain ⟨its, rv, p1, l1⟩ := qx.inv I1
      obtain ⟨its2, rv2, p2, l2⟩ := qy.inv I1
      refine zip_begins2 (beginsB a its.toArray) (beginsB b its2.toArray) p1 p2 fun h' hz hTI hTO h1 h2 hsz hk => wpAny_pyIter_zip hz ?_
      have I2 : Inv X pins σ H1 { s1 with heap := h' } := I1.kept (t' := s1.toks) hk
      refine ⟨s1.heap.objs.size + 4, [s1.heap.objs.size + 4, s1.heap.objs.size + 2, s1.heap.objs.size + 3, s1.heap.objs.size, s1.heap.objs.size + 1], _, _, H1, rfl, I2,
        turn_zipB (Nat.ne_of_lt l1) (Nat.ne_of_lt (Nat.lt_succ_of_lt l2)) (zip_sep2 (lt_one l1) (lt_one l2)), ⟨hz, hTI, ⟨_, _, hTO⟩, coreB.begin h1, coreB.begin h2⟩, fun c hcm => ?_, k⟩
      have e' : c = s1.heap.objs.size + 4 ∨ c = s1.heap.objs.size + 2 ∨ c = s1.heap.objs.size + 3 ∨ c = s1.heap.objs.size ∨ c = s1.heap.objs.size + 1 := by simpa using hcm
      have hle : s1.heap.objs.size ≤ c := by
        rcases e' with z | z | z | z | z <;> (rw [z]; first | exact Nat.le_refl _ | exact Nat.le_add_right _ _)
      exact I1.fpOk hle (I1.hok.fresh hle)

/-! ### zip of three -/
def ItZ3 (K : PySem.W.Frag) (a b c : Bool × Addr) : It :=
  ⟨fun i H => ∃ (xs ys zs : List V), SqB K a H xs ∧ SqB K b H ys ∧ SqB K c H zs ∧ i < xs.length ∧ i < ys.length ∧ i < zs.length,
    fun i H v H' => ∃ T x y z, v = .ref T ∧ H T = none ∧ H' = upd H T (.tup [x, y, z]) ∧ (∀ xs, SqB K a H xs → xs[i]? = some x) ∧ (∀ ys, SqB K b H ys → ys[i]? = some y) ∧ ∀ zs, SqB K c H zs → zs[i]? = some z,
    fun i H => ∃ xs ys zs : List V, SqB K a H xs ∧ SqB K b H ys ∧ SqB K c H zs ∧ i = min (min xs.length ys.length) zs.length⟩
def iZip3B (K : PySem.W.Frag) (ta : TA) : TI := fun σ H R => ta σ H fun vs H1 => ∃ a b c xs ys zs, vs = [.ref a.2, .ref b.2, .ref c.2] ∧ SqB K a H1 xs ∧ SqB K b H1 ys ∧ SqB K c H1 zs ∧ R (ItZ3 K a b c) H1
/-! ### as data -/
def enumD (xs : List D) : List D := (List.range xs.length).zipWith (fun (i : Nat) x => .tup [.int (i : Nat), x]) xs
def zip2D (xs ys : List D) : List D := List.zipWith (fun x y => .tup [x, y]) xs ys
def zip3D (xs ys zs : List D) : List D := List.zipWith (fun (p : D × D) z => .tup [p.1, p.2, z]) (xs.zip ys) zs
theorem seq_src {K : PySem.W.Frag} {S : Hp} {d : D} {w : V} (r : Rep K S d w) (hs : isSeq d = true) : ∃ (b : Bool × Addr) (vs : List V), w = .ref b.2 ∧ RepL K S (itsD d) vs ∧ ∀ H, Same S H → SqB K b H vs := by
  cases d with
  | lst xs =>
    obtain ⟨a, vs, rfl, k1, k2⟩ := rep_lst.mp r
    exact ⟨(false, a), vs, rfl, k2, fun H h => .of (h _ _ k1)⟩
  | rol xs =>
    obtain ⟨a, vs, rfl, k1, k2⟩ := rep_rol.mp r
    exact ⟨(false, a), vs, rfl, k2, fun H h => sqL_same h k1⟩
  | tup xs =>
    obtain ⟨a, vs, rfl, k1, k2⟩ := rep_tupQ r
    exact ⟨(true, a), vs, rfl, k2, fun H h => sqT_same h k1⟩
  | _ => cases hs

section
variable {K : PySem.W.Frag} {S : Hp}
theorem RepL.mk2 {d1 d2 : D} {v1 v2 : V} (a : Rep K S d1 v1) (b : Rep K S d2 v2) : RepL K S [d1, d2] [v1, v2] := repL_cons.mpr ⟨v1, [v2], rfl, a, repL_cons.mpr ⟨v2, [], rfl, b, repL_nil.mpr rfl⟩⟩
theorem RepL.mk3 {d1 d2 d3 : D} {v1 v2 v3 : V} (a : Rep K S d1 v1) (b : Rep K S d2 v2) (c : Rep K S d3 v3) : RepL K S [d1, d2, d3] [v1, v2, v3] := repL_cons.mpr ⟨v1, _, rfl, a, .mk2 b c⟩
theorem enumD_len (xs : List D) : (enumD xs).length = xs.length := by unfold enumD; rw [List.length_zipWith, List.length_range, Nat.min_self]
theorem enumD_get {xs : List D} {i : Nat} {d : D} (h : (enumD xs)[i]? = some d) : ∃ x, xs[i]? = some x ∧ d = .tup [.int (i : Nat), x] := by
  unfold enumD at h
  obtain ⟨j, x, hj, hx, e⟩ := List.getElem?_zipWith_eq_some.mp h
  obtain ⟨hl, e2⟩ := List.getElem?_eq_some_iff.mp hj
  rw [List.getElem_range] at e2
  subst e2
  exact ⟨x, hx, e.symm⟩
theorem jr_enum {b : Bool × Addr} {ds : List D} {vs : List V} (h : ∀ H, Same S H → SqB K b H vs) (r : RepL K S ds vs) : JRep K (ItE K b) (enumD ds) [] S := by
  unfold JRep
  rw [enumD_len]
  refine ⟨fun i H hi hG => ?_, fun H hG => ⟨vs, h H hG.2, r.length⟩, fun i H x H' hi hG y d hd => ?_⟩
  · exact ⟨vs, vs[i]'(by rw [← r.length]; exact hi), h H hG.2, List.getElem?_eq_getElem _⟩
  · obtain ⟨T, u, rfl, hT, rfl, hu⟩ := y
    obtain ⟨x, hx, rfl⟩ := enumD_get hd
    obtain ⟨v, k1, k2⟩ := r.get hx
    have e := hu vs (h H hG.2)
    rw [k1] at e
    cases e
    exact .inr (.inl ⟨T, _, _, hT, rfl, rfl, rfl, .mk2 (rep_int.mpr rfl) k2⟩)
theorem zip2D_len (xs ys : List D) : (zip2D xs ys).length = min xs.length ys.length := List.length_zipWith
theorem jr_zip2 {a b : Bool × Addr} {d1 d2 : List D} {v1 v2 : List V} (h1 : ∀ H, Same S H → SqB K a H v1) (h2 : ∀ H, Same S H → SqB K b H v2) (r1 : RepL K S d1 v1) (r2 : RepL K S d2 v2) : JRep K (ItZ2 K a b) (zip2D d1 d2) [] S := by
  unfold JRep
  rw [zip2D_len]
  refine ⟨fun i H hi hG => ?_, fun H hG => ⟨v1, v2, h1 H hG.2, h2 H hG.2, by rw [r1.length, r2.length]⟩, fun i H x H' hi hG y d hd => ?_⟩
  · obtain ⟨l1, l2⟩ := Nat.lt_min.mp hi
    exact ⟨v1, v2, h1 H hG.2, h2 H hG.2, by rw [← r1.length]; exact l1, by rw [← r2.length]; exact l2⟩
  · obtain ⟨T, u1, u2, rfl, hT, rfl, e1, e2⟩ := y
    obtain ⟨x1, x2, hx1, hx2, rfl⟩ := List.getElem?_zipWith_eq_some.mp hd
    obtain ⟨w1, k1, k2⟩ := r1.get hx1
    obtain ⟨w2, k3, k4⟩ := r2.get hx2
    have q1 := e1 v1 (h1 H hG.2)
    have q2 := e2 v2 (h2 H hG.2)
    rw [k1] at q1
    rw [k3] at q2
    cases q1
    cases q2
    exact .inr (.inl ⟨T, _, _, hT, rfl, rfl, rfl, .mk2 k2 k4⟩)
theorem zip3D_len (xs ys zs : List D) : (zip3D xs ys zs).length = min (min xs.length ys.length) zs.length := by unfold zip3D; rw [List.length_zipWith, List.length_zip]
end
def enF (xs : List D) : M (List D × Option Nat) := fun e => match xs with
  | [d] => if isSeq d = true then .ok (enumD (itsD d), none) e else .bad
  | _ => .bad
def zip2F (xs : List D) : M (List D × Option Nat) := fun e => match xs with
  | [a, b] => if isSeq a = true ∧ isSeq b = true then .ok (zip2D (itsD a) (itsD b), none) e else .bad
  | _ => .bad
def zip3F (xs : List D) : M (List D × Option Nat) := fun e => match xs with
  | [a, b, c] => if isSeq a = true ∧ isSeq b = true ∧ isSeq c = true then .ok (zip3D (itsD a) (itsD b) (itsD c), none) e else .bad
  | _ => .bad
section
variable {X : Cx} {W : WX} {fs : M (List D)} {p pos tpos : Pos} {elts : List Expr} {kk : Nat}
theorem di_enum {a : Expr} (hg : Gl X "enumerate") (hm : X.mg "enumerate" = none) (ha : DF X W [a] fs) (hs : starEach [a] X.env = [(false, eval a X.env)] := by rfl) : DI X W (.Tuple elts kk tpos) (.Call (.Name "enumerate" p) [a] [] pos) (M.bind fs enF) :=
  ⟨PI.weak (pi_enumB hg hm ha.pa hs) fun σ H R ⟨S, e, A, g⟩ => by
    refine tDx.step A Ext.refl g fun xs e1 H1 S1 ws A1 E1 _ r g1 => ?_
    unfold enF at g1
    split at g1
    · rename_i d
      split at g1
      · rename_i hs
        obtain ⟨w, us, rfl, r1, r2⟩ := repL_cons.mp r
        rw [repL_nil] at r2
        subst r2
        obtain ⟨b, vs, rfl, k1, k2⟩ := seq_src r1 hs
        exact ⟨b, vs, rfl, k2 H1 A1.sub, g1 H1 S1 _ A1 E1 ⟨[], jr_enum k2 k1, fun q hq => by cases hq⟩⟩
      · exact g1.elim
    · exact g1.elim⟩
theorem di_zip2 {a b : Expr} (hg : Gl X "zip") (hm : X.mg "zip" = none) (ha : DF X W [a, b] fs) (hs : starEach [a, b] X.env = (false, eval a X.env) :: starEach [b] X.env := by rfl) (hpl : (backTo pos (starEach [b] X.env)).any (·.1) = false := by rfl) :
    DI X W (.Tuple elts kk tpos) (.Call (.Name "zip" p) [a, b] [] pos) (M.bind fs zip2F) :=
  ⟨PI.weak (pi_zipB hg hm ha.pa hs hpl) fun σ H R ⟨S, e, A, g⟩ => by
    refine tDx.step A Ext.refl g fun xs e1 H1 S1 ws A1 E1 _ r g1 => ?_
    have hl := r.length
    unfold zip2F at g1
    split at g1
    · rename_i d1 d2
      split at g1
      · rename_i hs
        obtain ⟨w, us, rfl, r1, r2⟩ := repL_cons.mp r
        obtain ⟨w2, us2, rfl, r3, r4⟩ := repL_cons.mp r2
        rw [repL_nil] at r4
        subst r4
        obtain ⟨b1, vs1, rfl, k1, k2⟩ := seq_src r1 hs.1
        obtain ⟨b2, vs2, rfl, k3, k4⟩ := seq_src r3 hs.2
        exact ⟨b1, b2, vs1, vs2, rfl, k2 H1 A1.sub, k4 H1 A1.sub, g1 H1 S1 _ A1 E1 ⟨[], jr_zip2 k2 k4 k1 k3, fun q hq => by cases hq⟩⟩
      · exact g1.elim
    · exact g1.elim⟩
end
end DL

set_option maxHeartbeats 4000000
/-! DL13: xs[i] = v; what is never reached; a, b = x, y. -/
namespace DL
open PySem PySem.Spec PyProof.Rows L2
variable [TabsT]

/-! ### xs[i] = v -/
def storeV (t : Val) (d : D) (j : Val) : SM := fun e => match t, j with
  | .at_ i, .d (.int k) => (match e[i]? with
    | some (.ow (.lst xs)) => (match ixN xs.length k with
      | some n => .nx (e.set i (.ow (.lst (xs.set n d))))
      | none => .bad)
    | _ => .bad)
  | _, _ => .bad
def sSub (fe fo fi : M Val) : SM := sBind fe fun v => sBind (frz v) fun d => sBind fo fun t => sBind fi fun j => storeV t d j
section
variable {X : Cx} {W : WX} {np : Nat} {pos tpos : Pos} {ex o i : Expr} {fe fo fi : M Val}
theorem ds_sub (h : DE X W ex fe) (ho : DE X W o fo) (hi : DE X W i fi) (hs : swapsWithSole [.Subscript o i tpos] ex pos.line X.env = pure false := by rfl) (hw : swappedStores [.Subscript o i tpos] ex X.env = pure none := by rfl)
    (h1 : (assignEach [.Subscript o i tpos] X.env).map (·.2) = [assign (.Subscript o i tpos) X.env] := by rfl)
    (ha : ∀ v, assign (.Subscript o i tpos) X.env v = (do
      let ov ← holding [v] (eval o X.env)
      let iv ← holding [v, ov] (eval i X.env)
      standAt tpos
      holding [v, ov, iv] (setItem ov iv v)
      release [v, ov, iv] []) := by intro _; rfl) : DS X W np (.Assign [.Subscript o i tpos] ex pos) (sSub fe fo fi) := ⟨PS.weak (ps_asg h.pe (pg_sub ho.pe hi.pe set_list ha) hs hw h1) fun D σ H ⟨S, e, A, k⟩ => by
  refine sBind.step A k fun v e1 H1 S1 w A1 E1 hv k1 => ?_
  refine frzS_step A1 E1 hv k1 fun x e2 S2 A2 E2 _ r k2 => ?_
  refine sBind.step A2 (SGoal.from k2 E2 Pr.refl) fun t e3 H3 S3 wt A3 E3 ht k3 => ?_
  refine sBind.step A3 (SGoal.from k3 E3 Pr.refl) fun j e4 H4 S4 wj A4 E4 hj k4 => ?_
  unfold storeV at k4
  split at k4
  · rename_i n z
    split at k4
    · rename_i xs q
      split at k4
      · rename_i m hm
        obtain ⟨s, q1, q2, q3⟩ := ht
        obtain ⟨a, b1, b2, vs, b3, b4⟩ := A4.at_ n _ q
        rw [q3] at b1
        cases b1
        obtain rfl := rep_int.mp (show Rep X.K S4 (.int z) wj from hj)
        have rx : Rep X.K S4 x w := (r.same E3.sm).same E4.sm
        have e1 := own_write (o' := .lst (xs.set m x)) (u := .lst (vs.set m w)) A4 q q3 ⟨_, upd_same, b4.set rx m⟩
        exact ⟨a, vs, z, m, rfl, rfl, b3, by rw [← b4.length]; exact hm, k4 σ _ S4 e1.1 (E4.trans e1.2) Pr.refl⟩
      · exact k4.elim
    · exact k4.elim
  · exact k4.elim⟩
/-- a statement that is never reached -/
def sBad : SM := fun _ => .bad
theorem ds_never {st : Stmt} : DS X W np st sBad := ⟨PS.weak ps_never fun D σ H ⟨S, e, A, k⟩ => k⟩
end

/-! ### several values at once -/
def settle (v : Val) : M Val := match v with
  | .at_ i => M.bind (frz (.at_ i)) fun x => M.ret (.d x)
  | v => M.ret v
def vNil : M (List Val) := M.ret []
def vCons (f : M Val) (fs : M (List Val)) : M (List Val) := M.bind f fun v => M.bind (settle v) fun v => M.bind fs fun vs => M.ret (v :: vs)
def NVs (K : PySem.W.Frag) (σ : St) (H0 H S : Hp) (e : Env) : List Val → List V → Prop
  | [], ws => ws = []
  | v :: vs, ws => ∃ w us, ws = w :: us ∧ VAt K σ H0 H S e v w ∧ (∀ i, v ≠ .at_ i) ∧ NVs K σ H0 H S e vs us ∧ ∀ (o : O), v = Val.new o → ∀ (i : Nat) (o' : O), vs[i]? = some (Val.new o') → us[i]? ≠ some w
structure DV (X : Cx) (W : WX) (es : List Expr) (fs : M (List Val)) : Prop where
  pa : PA X es (tDx X.K W (fun σ H0 vs H S e ws => NVs X.K σ H0 H S e vs ws) fs)
section
variable {K : PySem.W.Frag} {σ : St} {H0 H S : Hp} {e : Env}
theorem NVs.length : ∀ {vs : List Val} {ws : List V}, NVs K σ H0 H S e vs ws → vs.length = ws.length
  | [], ws, h => by cases h; rfl
  | v :: vs, ws, ⟨w, us, e1, _, _, h, _⟩ => by rw [e1, List.length_cons, List.length_cons, h.length]
theorem NVs.base {H1 : Hp} (tr : ∀ b, H1 b = none → H0 b = none) : ∀ {vs : List Val} {ws : List V}, NVs K σ H1 H S e vs ws → NVs K σ H0 H S e vs ws
  | [], ws, h => h
  | v :: vs, ws, ⟨w, us, e1, h1, h2, h3, h4⟩ => ⟨w, us, e1, h1.base tr, h2, h3.base tr, h4⟩
theorem NVs.get : ∀ {vs : List Val} {ws : List V} {i : Nat} {v : Val}, NVs K σ H0 H S e vs ws → vs[i]? = some v → ∃ w, ws[i]? = some w ∧ VAt K σ H0 H S e v w
  | [], ws, i, v, h, k => by simp at k
  | v :: vs, ws, 0, v', ⟨w, us, e1, h1, h2, h3, h4⟩, k => by
    have k : some v = some v' := k
    cases k
    exact ⟨w, by rw [e1]; rfl, h1⟩
  | v :: vs, ws, i + 1, v', ⟨w, us, e1, h1, h2, h3, h4⟩, k => by
    obtain ⟨w', k1, k2⟩ := h3.get (i := i) (v := v') (by simpa using k)
    exact ⟨w', by rw [e1]; simpa using k1, k2⟩
end
section
variable {X : Cx} {W : WX} {ex : Expr} {es : List Expr} {f : M Val} {fs : M (List Val)}
theorem dv_nil : DV X W [] vNil := ⟨PA.weak pa_nil fun σ H Q ⟨S, e, A, g⟩ => g H S [] A Ext.refl rfl⟩
theorem settle_step {α β : Type} {K : PySem.W.Frag} {σ : St} {H0 S0 H S : Hp} {e0 e : Env} {v : Val} {w : V} {At : α → Hp → Hp → Env → β → Prop} {k : Val → M α} {Q : β → Hp → Prop} {P : Prop} (A : Abs K σ H S e) (E : Ext σ e0 H0 S0 σ e H S) (h : VAt K σ H0 H S e v w)
    (g : Goal K W σ H0 S0 e0 At (M.bind (settle v) k e) Q)
    (st : ∀ v' e' S', Abs K σ H S' e' → Ext σ e0 H0 S0 σ e' H S' → VAt K σ H0 H S' e' v' w → (∀ i, v' ≠ .at_ i) → Goal K W σ H0 S0 e0 At (k v' e') Q → P) : P := by
  cases v with
  | d x => exact st (.d x) e S A E h (fun i z => by cases z) g
  | new o => exact st (.new o) e S A E h (fun i z => by cases z) g
  | at_ i =>
    have g2 : Goal K W σ H0 S0 e0 At (M.bind (frz (.at_ i)) (fun x => k (.d x)) e) Q := by
      unfold settle M.bind at g
      unfold M.bind
      cases q : frz (.at_ i) e with
      | ok x e' => simp only [q] at g; exact g
      | er x e' => simp only [q] at g; exact g
      | bad => simp only [q] at g; exact g
    exact frz_step A E h g2 fun x e' S' _ A' E' _ r g3 => st (.d x) e' S' A' E' r (fun i z => by cases z) g3
theorem dv_cons (h : DE X W ex f) (hs : DV X W es fs) (hp : starEach (ex :: es) X.env = (false, eval ex X.env) :: starEach es X.env := by rfl) : DV X W (ex :: es) (vCons f fs) := ⟨PA.weak (pa_cons h.pe hs.pa hp) fun σ H Q ⟨S, e, A, g⟩ => by
  refine tDx.step A Ext.refl g fun v e1 H1 S1 w1 A1 E1 _ v1 g1 => ?_
  refine settle_step A1 E1 v1 g1 fun v2 e2 S2 A2 E2 r2 na g2 => ?_
  refine tDx.step A2 E2 g2 fun vs e3 H3 S3 ws A3 E3 E3' r3 g3 => ?_
  refine g3 H3 S3 (w1 :: ws) A3 E3 ⟨w1, ws, rfl, r2.mono E3' (fun i z => (na i z).elim), na, r3.base E2.tr, fun o ho i o' hi hw => ?_⟩
  subst ho
  obtain ⟨a, rfl, k2, k3, k4, k5⟩ := r2
  obtain ⟨u, hu⟩ := k3.there
  obtain ⟨w', j1, j2⟩ := r3.get hi
  rw [hw] at j1
  cases j1
  obtain ⟨b, eb, _, _, _, hb⟩ := j2
  cases eb
  rw [hu] at hb
  cases hb⟩
end

/-! ### and their slots -/
def setVs : List Nat → List Val → SM
  | i :: is, .d x :: vs => fun e => setVs is vs (e.set i (.sh x))
  | i :: is, .new o :: vs => fun e => setVs is vs (e.set i (.ow o))
  | [], [] => .nx
  | _, _ => fun _ => .bad
def setAll : St → List Nat → List V → St
  | σ, i :: is, w :: ws => setAll (σ.set i (some w)) is ws
  | σ, _, _ => σ
def sPar (is : List Nat) (fs : M (List Val)) : SM := sBind fs (setVs is)
section
variable {K : PySem.W.Frag} {σ : St} {H0 H S : Hp} {e : Env}
theorem had_set {i : Nat} {s : SV} {w : V} {b : Addr} (h : Had (σ.set i (some w)) (e.set i s) b) (l : e.length = σ.length) : (isHad s = true ∧ w = .ref b) ∨ Had σ e b := by
  obtain ⟨j, t, h1, h2, h3⟩ := h
  by_cases hj : i = j
  · subst hj
    have hl : i < e.length := by
      have := (List.getElem?_eq_some_iff.mp h1).1
      rwa [List.length_set] at this
    rw [List.getElem?_set_self hl] at h1
    rw [List.getElem?_set_self (by rw [← l]; exact hl)] at h3
    cases h1
    exact .inl ⟨h2, Option.some.inj (Option.some.inj h3)⟩
  · rw [List.getElem?_set_ne hj] at h1 h3
    exact .inr ⟨j, t, h1, h2, h3⟩
theorem NVs.set {i : Nat} {s : SV} {w : V} (l : e.length = σ.length) : ∀ {vs : List Val} {ws : List V}, NVs K σ H0 H S e vs ws → (isHad s = true → ∀ (j : Nat) (o' : O), vs[j]? = some (Val.new o') → ws[j]? ≠ some w) → NVs K (σ.set i (some w)) H0 H S (e.set i s) vs ws
  | [], ws, h, _ => h
  | v :: vs, ws, ⟨w', us, e1, h1, h2, h3, h4⟩, hn => by
    refine ⟨w', us, e1, ?_, h2, h3.set l fun hs j o' hj hw => hn hs (j + 1) o' (by simpa using hj) (by rw [e1]; simpa using hw), h4⟩
    cases v with
    | d x => exact h1
    | at_ j => exact (h2 j rfl).elim
    | new o =>
      obtain ⟨a, k1, k2, k3, k4, k5⟩ := h1
      refine ⟨a, k1, k2, k3, fun hh => ?_, k5⟩
      rcases had_set hh l with ⟨q1, q2⟩ | q
      · exact hn q1 0 o rfl (by rw [e1, k1, q2]; rfl)
      · exact k4 q
theorem setVs_le {W : WX} {np : Nat} {D : Ends} {S0 : Hp} {σ0 : St} {e0 : Env} : ∀ {is : List Nat} {vs : List Val} {ws : List V} {σ : St} {e : Env}, (∀ i ∈ is, np ≤ i) → Abs K σ H S e → Ext σ0 e0 H0 S0 σ e H S → Pr np σ0 σ → NVs K σ H0 H S e vs ws → SGoal K W np σ0 H0 S0 e0 (setVs is vs e) D → D.nx (setAll σ is ws) H
  | [], [], ws, σ, e, _, A, E, P, h, g => by
    cases h
    exact g σ H S A E P
  | [], _ :: _, ws, σ, e, _, A, E, P, h, g => g.elim
  | i :: is, [], ws, σ, e, _, A, E, P, h, g => g.elim
  | i :: is, .at_ j :: vs, ws, σ, e, _, A, E, P, h, g => g.elim
  | i :: is, .d x :: vs, ws, σ, e, hn, A, E, P, ⟨w, us, e1, h1, h2, h3, h4⟩, g => by
    subst e1
    obtain ⟨A1, E1⟩ := set_abs (H0 := H0) (i := i) (s := .sh x) (w := w) A ⟨w, rfl, h1⟩ rfl (fun a z => by cases z) (fun a z => by cases z)
    exact setVs_le (is := is) (vs := vs) (σ := σ.set i (some w)) (e := e.set i (.sh x)) (fun j hj => hn j (List.mem_cons_of_mem _ hj)) A1 (E1 E) (P.trans (pr_set (hn i (List.mem_cons_self ..)))) (NVs.set (s := .sh x) A.len h3 fun z => by cases z) g
  | i :: is, .new o :: vs, ws, σ, e, hn, A, E, P, ⟨w, us, e1, h1, h2, h3, h4⟩, g => by
    subst e1
    obtain ⟨a, rfl, k2, k3, k4, k5⟩ := h1
    obtain ⟨A1, E1⟩ := set_abs (H0 := H0) (i := i) (s := .ow o) (w := .ref a) A ⟨a, rfl, k2, k3⟩ rfl (fun b _ z => by cases z; exact k4) (fun b _ z => by cases z; exact k5)
    exact setVs_le (is := is) (vs := vs) (σ := σ.set i (some (.ref a))) (e := e.set i (.ow o)) (fun j hj => hn j (List.mem_cons_of_mem _ hj)) A1 (E1 E) (P.trans (pr_set (hn i (List.mem_cons_self ..)))) (NVs.set (s := .ow o) A.len h3 fun _ j o' hj => h4 o rfl j o' hj) g
end
section
variable {X : Cx} {W : WX} {np : Nat} {pos : Pos} {fs : M (List Val)}
theorem ds_par2 {i j : Nat} {x y : Str} {a b : Expr} {px py pt : Pos} {kt k2 pt2} (hb : np ≤ i ∧ np ≤ j) (hc : X.calm = true) (hN : X.N.Nodup) (hi : X.N[i]? = some x) (hj : X.N[j]? = some y) (hij : i ≠ j)
    (hx : X.env.scope.names.lookup x = some .local) (hy : X.env.scope.names.lookup y = some .local) (ha : DV X W [a, b] fs)
    (hw : swappedStores [.Tuple [.Name x px, .Name y py] kt pt] (.Tuple [a, b] k2 pt2) X.env = pure (some [x, y]) := by rfl)
    (hs : swapsWithSole [.Tuple [.Name x px, .Name y py] kt pt] (.Tuple [a, b] k2 pt2) pos.line X.env = pure false := by rfl) :
    DS X W np (.Assign [.Tuple [.Name x px, .Name y py] kt pt] (.Tuple [a, b] k2 pt2) pos) (sPar [i, j] fs) := ⟨PS.weak (ps_par hc hN hi hj hij hx hy ha.pa hw hs) fun D σ H ⟨S, e, A, g⟩ => by
  refine sBind.step A g fun vs e1 H1 S1 ws A1 E1 hv g1 => ?_
  have hb' : ∀ n ∈ [i, j], np ≤ n := fun n hn => by
    rcases List.mem_cons.mp hn with z | z
    · rw [z]; exact hb.1
    · rw [List.mem_singleton.mp z]; exact hb.2
  have hl : ws.length = 2 := by
    rw [← hv.length]
    match vs, g1 with
    | [_, _], _ => rfl
    | [], g1 => exact g1.elim
    | [.d _], g1 => exact g1.elim
    | [.new _], g1 => exact g1.elim
    | [.at_ _], g1 => exact g1.elim
    | .at_ _ :: _ :: _ :: _, g1 => exact g1.elim
    | .d _ :: .d _ :: _ :: _, g1 => exact g1.elim
    | .d _ :: .new _ :: _ :: _, g1 => exact g1.elim
    | .d _ :: .at_ _ :: _ :: _, g1 => exact g1.elim
    | .new _ :: .d _ :: _ :: _, g1 => exact g1.elim
    | .new _ :: .new _ :: _ :: _, g1 => exact g1.elim
    | .new _ :: .at_ _ :: _ :: _, g1 => exact g1.elim
  match ws, hl with
  | [v, w], _ => exact ⟨v, w, rfl, setVs_le hb' A1 E1 Pr.refl hv g1⟩⟩
def gNames : List Nat → TGs
  | [] => gNil
  | i :: is => gCons (gName i) (gNames is)
theorem gNames_of {Q : St → Hp → Prop} {H : Hp} : ∀ {is : List Nat} {ws : List V} {σ : St}, is.length = ws.length → Q (setAll σ is ws) H → gNames is ws σ H Q
  | [], [], σ, _, h => ⟨rfl, h⟩
  | i :: is, w :: ws, σ, hl, h => ⟨w, ws, rfl, gNames_of (by simpa using hl) h⟩
  | [], _ :: _, _, hl, _ => by simp at hl
  | _ :: _, [], _, hl, _ => by simp at hl
theorem setVs_len {is : List Nat} : ∀ {vs : List Val} {e e' : Env} , setVs is vs e ≠ .bad → is.length = vs.length := by
  induction is with
  | nil =>
    intro vs e e' h
    cases vs with
    | nil => rfl
    | cons v vs => exact (h rfl).elim
  | cons i is ih =>
    intro vs e e' h
    cases vs with
    | nil => exact (h rfl).elim
    | cons v vs =>
      cases v with
      | d x => exact congrArg (· + 1) (ih (e := e.set i (.sh x)) (e' := e) h)
      | new o => exact congrArg (· + 1) (ih (e := e.set i (.ow o)) (e' := e) h)
      | at_ j => exact (h rfl).elim
theorem ds_parT {is : List Nat} {ts es : List Expr} {kt k2 : Nat} {pt pt2 : Pos} {n : Nat} (hb : ∀ i ∈ is, np ≤ i) (hc : X.calm = true) (hg : PGs X ts (gNames is)) (ha : DV X W es fs) (hnl : is.length = n) (hz : n ≤ sizeLine)
    (hn : (assignEach ts X.env).length = n := by rfl) (hst : (assignEach ts X.env).findIdx? (·.1) = none := by rfl)
    (hs : swapsWithSole [.Tuple ts kt pt] (.Tuple es k2 pt2) pos.line X.env = pure false := by rfl) (hw : swappedStores [.Tuple ts kt pt] (.Tuple es k2 pt2) X.env = pure none := by rfl)
    (h1 : (assignEach [.Tuple ts kt pt] X.env).map (·.2) = [assign (.Tuple ts kt pt) X.env] := by rfl) :
    DS X W np (.Assign [.Tuple ts kt pt] (.Tuple es k2 pt2) pos) (sPar is fs) := ⟨PS.weak (ps_asg (pe_tup ha.pa) (pg_tup hc hg hn hst) hs hw h1) fun D σ H ⟨S, e, A, g⟩ => by
  unfold tAsg tTup
  show tDx X.K W _ fs σ H (fun xs H1 => xs.length ≤ sizeLine ∧ ∀ p, H1 p = none → gTup X.K n (gNames is) (.ref p) σ (upd H1 p (.tup xs)) D.nx)
  refine sBind.step A g fun vs e1 H1 S1 ws A1 E1 hv g1 => ?_
  have hl : is.length = ws.length := by
    rw [← hv.length]
    exact setVs_len (e := e1) (e' := e1) fun z => by rw [z] at g1; exact g1.elim
  refine ⟨by rw [← hl, hnl]; exact hz, fun q hq => ⟨q, ws, rfl, .of upd_same, by rw [← hl, hnl], gNames_of hl ?_⟩⟩
  have A2 := abs_new (o := .tup ws) A1 hq
  have E2 := E1.trans (ext_new (σ := σ) (e := e1) (S := S1) (o := .tup ws) hq)
  refine setVs_le hb A2 E2 Pr.refl ?_ g1
  have up : ∀ {vs : List Val} {us : List V}, NVs X.K σ H H1 S1 e1 vs us → NVs X.K σ H (upd H1 q (.tup ws)) S1 e1 vs us := by
    intro vs
    induction vs with
    | nil => exact fun h => h
    | cons v vs ih =>
      rintro us ⟨w, us', r1, r2, r3, r4, r5⟩
      exact ⟨w, us', r1, r2.mono (ext_new hq) (fun i z => (r3 i z).elim), r3, ih r4, r5⟩
  exact up hv⟩
end
end DL

set_option maxHeartbeats 4000000
/-! DL14: dicts: {k: v for ..}, in, len, list. Keys all flat (numbers, texts) or all tuples of such. -/
namespace DL
open PySem PySem.Spec PyProof.Rows L2
variable [TabsT]

/-! ### a key laid by a comprehension, flat or a tuple -/
theorem lay_key {X : Cx} {pins : List (Addr × Obj)} {σ : St} {H H' : Hp} {t : Shared} {E : Value → Shared → Prop} {D : Addr} {y z : V} {u r : Value} {Q : Unit → Shared → Prop} (hu : X.A.units + 1 < cLine) (I : Inv X pins σ H t) (g : DPut H D y z H') (ry : RelV y u) (rz : RelV z r)
    (k : ∀ t', Inv X pins σ H' t' → Q () t') : wpAny (model X.prog X.w) X.A (dictSet D u r) Q E t := by
  rcases g with ⟨ps, q, hD, rfl, hl, rfl⟩ | ⟨ps, q, b, hD, rfl, hb, hl, rfl⟩
  · exact d_dictSet I hD hl ry rz k
  · obtain rfl : u = Value.ref b := ry
    obtain ⟨n1, n2, es, rel, dd⟩ := dt_of I.hok hD
    have n3 : es.length ≤ sizeLine := Nat.le_trans (Nat.le_of_eq (Paired.length rel).symm) n1
    have n4 : (putK ps q z).length ≤ sizeLine := Nat.le_trans (length_putK ps q z) hl
    refine wpAny_dictSet_heap (hsz := n3) (knd := tupleKind (mixKind X.prog X.w)) (Nat.lt_of_succ_lt hu) (key_of I.hok hb) dd fun hp dd' sb => k _ ?_
    obtain ⟨ob, c1, c2, c3, c4, c5, c6, _, c7⟩ := dd'
    refine d_write I (by rw [hD]; trivial) sb ⟨ob, c3⟩ ⟨n4, n2, _, (rel.put q hb rz).keeps fun c ys hc => ?_, ob, c1, c2, c3, c4, c5, c6, c7⟩
    rw [upd_ne fun h => by rw [h, hD] at hc; cases hc]
    exact hc

/-! ### the comprehension itself -/
def tDcT (wi : TI) (g : TG) (tt : TT) (tk tv : TE) (vs : List Nat) : TE := fun σ H Q => wi σ H fun J H1 => ∀ D, H1 D = none → ∃ o0 : HO, (o0 = .dK [] ∨ o0 = .dT []) ∧ ∃ Wl : Nat → Nat → Hp → Prop, (∃ m, Wl 0 m (upd H1 D o0)) ∧ ∀ i m H, Wl i m H →
  (J.stop i H ∧ Q (.ref D) H) ∨ (J.go i H ∧ ∃ Nx : Hp → Prop, (∀ H', Nx H' → ∃ m', m' < m ∧ Wl (i + 1) m' H') ∧ ∀ x H', J.yld i H x H' → g x (wipe σ vs) H' fun σ2 H2 => wipe σ2 vs = wipe σ vs ∧ tt σ2 H2 fun b H3 =>
    if b = true then tk σ2 H3 fun y H4 => tv σ2 H4 fun z H5 => ∃ H6, DPut H5 D y z H6 ∧ Nx H6 else Nx H3)
section
variable {X : Cx} {kx vx tg iter : Expr} {ifs : List Expr} {scope : Scope} {own : List (Str × Nat)} {pos : Pos} {wi : TI} {g : TG} {tt : TT} {tk tv : TE}
theorem dcT_core {pins : List (Addr × Obj)} {z0 : Shared} {σ : St} {H : Hp} {Q : VK} {pos' : Pos} {use : Option (Value → Sem Unit)} {Qf : Value → Shared → Prop} (hu : X.A.units + 1 < cLine) (hc : X.calm = true) (hN : X.N.Nodup) (hi : PI X tg iter wi) (ok : BlkOk X.N X.env.scope scope own)
    (hg : ∀ (s : Shared) (H : Hp) (C : Addr) (cl : List (Str × Addr)) (fp : List Addr), PG (X.blk s H scope (compEnvC scope cl C X.env) fp) tg g) (ht : ∀ (s : Shared) (H : Hp) (C : Addr) (cl : List (Str × Addr)) (fp : List Addr), PTs (X.blk s H scope (compEnvC scope cl C X.env) fp) ifs tt)
    (hk : ∀ (s : Shared) (H : Hp) (C : Addr) (cl : List (Str × Addr)) (fp : List Addr), PE (X.blk s H scope (compEnvC scope cl C X.env) fp) kx tk)
    (hv : ∀ (s : Shared) (H : Hp) (C : Addr) (cl : List (Str × Addr)) (fp : List Addr), PE (X.blk s H scope (compEnvC scope cl C X.env) fp) vx tv) (hs : ∀ x, foldedSetIterable iter X.env x = pure x) (I : Inv X pins σ H z0) (h : tDcT wi g tt tk tv (own.map (·.2)) σ H Q)
    (out : ∀ D C t' m H', Inv X pins σ H' t' → Q (.ref D) H' → t'.heap.Ns C m → FpOk X pins H' C → compPost (model X.prog X.w) X.A X.xe use Qf (.ref D) C (.ok .next) t') :
    wpAny (model X.prog X.w) X.A (comprehension (.DictComp kx vx [⟨tg, iter, ifs, 0⟩] scope pos) scope X.env pos' newDict false (eval iter X.env) use) Qf X.xe z0 := by
  have names : ∀ y ∈ scope.names, y.2 = .free → ∃ c, X.env.cells.lookup y.1 = some c := fun y hy e => (ok.free y hy e).elim (fun k => I.ok.has _ (.inl k)) fun k => I.ok.has _ (.inr k)
  refine wpAny_comprehension_free (use := use) rfl hs (closure_ok names) ok.kind (fun y hy e => by rw [ok.uniq y hy, e]) (thn (hi.run pins z0 σ H _ I h) fun xv z1 hx => thn hx fun itv z2 hx2 => ?_)
  obtain ⟨it, fp, tn, J, G, rfl, IG, T, b0, bf, q⟩ := hx2
  refine wpAny_newObj_type (newEnv_comp ?_)
  obtain ⟨o0, ho, Wl, ⟨m0, w0⟩, turn⟩ := q z2.heap.objs.size (IG.hok.fresh (Nat.le_refl _))
  generalize eD : z2.heap.objs.size = D at w0 turn ⊢
  have nD : G D = none := IG.hok.fresh (Nat.le_of_eq eD)
  generalize e3 : ({ z2 with heap := z2.heap.push { cls := .type "dict", data := .dict #[] } } : Shared) = z3
  have h3 : z3.heap = z2.heap.push { cls := .type "dict", data := .dict #[] } := by rw [← e3]
  have old : ∀ b o, z2.heap.get? b = some o → z3.heap.get? b = some o := fun b o e => by rw [h3]; exact Heap.get?_push_of_some _ e
  have I3 : Inv X pins σ (upd G D o0) z3 := by
    rw [← e3]
    refine IG.laid (t' := z2.toks) (fun b o e => Heap.get?_push_of_some _ e) (Nat.le_of_eq eD) ?_
    rw [← eD]
    rcases ho with rfl | rfl
    · exact dk_empty z2.heap IG.big
    · exact dt_empty z2.heap IG.big
  have lo : ∀ b ∈ fp, b < z2.heap.objs.size := fun b hb => let ⟨o, e, _⟩ := T.obj _ _ b0 b hb; Heap.lt_size e
  have bf3 : ∀ b ∈ fp, FpOk X pins (upd G D o0) b ∧ b < z3.heap.objs.size := fun b hb =>
    ⟨⟨by rw [upd_ne (by rw [← eD]; exact Nat.ne_of_lt (lo b hb))]; exact (bf b hb).1, (bf b hb).2⟩, by rw [h3, Heap.size_push]; exact Nat.lt_succ_of_lt (lo b hb)⟩
  have b3 : tn 0 z3.heap := T.keep _ _ _ b0 fun b _ o e => old b o e
  have I4 := block_start I3 ok hN bf3
  have rg := hg z3 (upd G D o0) z3.heap.objs.size (cellsFrom (z3.heap.objs.size + 1) scope.names (cloFrom X.env.cells scope.names [])) fp
  have rt := ht z3 (upd G D o0) z3.heap.objs.size (cellsFrom (z3.heap.objs.size + 1) scope.names (cloFrom X.env.cells scope.names [])) fp
  have rk := hk z3 (upd G D o0) z3.heap.objs.size (cellsFrom (z3.heap.objs.size + 1) scope.names (cloFrom X.env.cells scope.names [])) fp
  have rv := hv z3 (upd G D o0) z3.heap.objs.size (cellsFrom (z3.heap.objs.size + 1) scope.names (cloFrom X.env.cells scope.names [])) fp
  show codeAny _ _ (.compStart (.DictComp kx vx [⟨tg, iter, ifs, 0⟩] scope pos) 0 (.ref it) (.ref D) (compEnvC scope (cellsFrom (z3.heap.objs.size + 1) scope.names (cloFrom X.env.cells scope.names [])) z3.heap.objs.size X.env)) (compPost (model X.prog X.w) X.A X.xe use Qf (.ref D) z3.heap.objs.size) { z3 with heap := pushCells (z3.heap.push { cls := .type "dict", data := .dict #[] }) scope.names }
  have nf : ∀ b ∈ fp, (upd G D o0) b = none := fun b hb => (bf3 b hb).1.1
  generalize ece : compEnvC scope (cellsFrom (z3.heap.objs.size + 1) scope.names (cloFrom X.env.cells scope.names [])) z3.heap.objs.size X.env = ce at I4 rg rt rk rv ⊢
  have lc : ce.locals = z3.heap.objs.size := by subst ece; rfl
  generalize eG : upd G D o0 = G3 at I3 I4 rg rt rk rv w0 nf bf3
  generalize e4 : ({ z3 with heap := pushCells (z3.heap.push { cls := .type "dict", data := .dict #[] }) scope.names } : Shared) = z4 at I4 ⊢
  have b4 : tn 0 z4.heap := T.keep _ _ _ b3 fun b _ o e => by rw [← e4]; exact pushCells_keeps _ _ _ _ (Heap.get?_push_of_some _ e)
  have still : ∀ {σ' : St} {H' : Hp} {t' : Shared}, Inv (X.blk z3 G3 scope ce fp) [] σ' H' t' → (∀ b ∈ fp, H' b = none) → ∀ b ∈ fp, FpOk (X.blk z3 G3 scope ce fp) [] H' b := fun {σ' H' t'} I' hn b hb =>
    ⟨hn b hb, (I'.ok.exf b hb).1, I'.ok.exfs b hb, .inl hb, fun x c e => (I'.ok.exf b hb).2 x c e, fun p hp => absurd (show p ∈ ([] : List (Addr × Obj)) ++ [] from hp) (by simp)⟩
  have loop : codeAny (model X.prog X.w) X.A (.compLoop (.DictComp kx vx [⟨tg, iter, ifs, 0⟩] scope pos) 0 (.ref it) (.ref D) ce) (compPost (model X.prog X.w) X.A X.xe use Qf (.ref D) z3.heap.objs.size) z4 := by
    refine compLoop_anyD (fun n t => ∃ i H', Inv (X.blk z3 G3 scope ce fp) [] (wipe σ (own.map (·.2))) H' t ∧ tn i t.heap ∧ (∀ b ∈ fp, H' b = none) ∧ Wl i n H') ?_ m0 ⟨0, G3, I4, b4, nf, w0⟩
    rintro n t5 ⟨i, G5, I5, b5, n5, w5⟩
    rcases turn i n G5 w5 with ⟨stop, fin⟩ | ⟨go, Nx, less, step⟩
    · refine thnF (T.done (X.blk z3 G3 scope ce fp) rfl rfl rfl hc i [] t5 _ G5 (fun _ _ => False) I5 (still I5 n5) b5 stop) fun r t6 ⟨hr, I6⟩ => ?_
      subst hr
      have I7 : Inv X pins σ G5 t6 := I3.call' (ch := fp) I6.os I6.base I6.hok I6.bare fun b hb => ⟨(bf3 b hb).1.2.2.2.1, (bf3 b hb).1.2.1, (bf3 b hb).1.2.2.2.2.1, (bf3 b hb).1.2.2.2.2.2⟩
      have none' : G5 z3.heap.objs.size = none := by rw [← lc]; exact I6.free
      obtain ⟨m, hn, _⟩ := I6.loc
      have hn : t6.heap.Ns z3.heap.objs.size m := by rw [← lc]; exact hn
      exact out D z3.heap.objs.size t6 m G5 I7 fin hn (I3.fpOk (Nat.le_refl _) none')
    · refine thnF (T.item (X.blk z3 G3 scope ce fp) rfl rfl rfl hc i [] t5 _ G5 (fun _ _ => False) I5 (still I5 n5) b5 go) fun r t6 ⟨u, hr, h6⟩ => ?_
      subst hr
      refine thnF h6 fun _ t7 ⟨x, G7, I7, r7, y7, b7, n7⟩ => ?_
      have P7 := I7.pinned (still I7 n7) (T.obj _ _ b7)
      refine thnF (rg.run _ t7 _ G7 x u _ P7 r7 (step x G7 y7)) fun _ t8 ⟨σ8, G8, I8, hw, q8⟩ => ?_
      refine thnF (rt.run _ t8 σ8 G8 _ I8 q8) fun b t9 ⟨G9, I9, q9⟩ => ?_
      have next : ∀ {t' : Shared} {H' : Hp}, Inv (X.blk z3 G3 scope ce fp) ([] ++ pinsAt fp t7.heap) σ8 H' t' → Nx H' → ∃ m, m < n ∧ ∃ i H', Inv (X.blk z3 G3 scope ce fp) [] (wipe σ (own.map (·.2))) H' t' ∧ tn i t'.heap ∧ (∀ b ∈ fp, H' b = none) ∧ Wl i m H' := fun {t' H'} I' nx => by
        obtain ⟨m', hm, w'⟩ := less H' nx
        have pin : ∀ b ∈ fp, ∀ o, t7.heap.get? b = some o → t'.heap.get? b = some o ∧ H' b = none := fun b hb o e =>
          let c := I'.pin (b, o) (List.mem_append_right _ (List.mem_append_right _ (mem_pinsAt hb e))); ⟨c.1, c.2.1⟩
        exact ⟨m', hm, i + 1, H', (I'.unpinned (pins := [])).weak (by rw [← hw, wipe_length]) (fun j v e => by rw [← hw] at e; exact (wipe_some e).1), T.keep _ _ _ b7 fun b hb o e => (pin b hb o e).1, fun b hb => let ⟨o, e, _⟩ := T.obj _ _ b7 b hb; (pin b hb o e).2, w'⟩
      cases b with
      | false => exact next I9 q9
      | true =>
        refine thnF (rk.run _ t9 σ8 G9 _ I9 q9) fun z t10 ⟨yk, G10, I10, r10, q10⟩ => ?_
        refine thnF (rv.run _ t10 σ8 G10 _ I10 q10) fun z' t11 ⟨yv, G11, I11, r11, G12, dp, nx⟩ => ?_
        exact lay_key (X := X.blk z3 G3 scope ce fp) hu I11 dp r10 r11 fun t12 I12 => next I12 nx
  exact codeAny_compStart_dict loop (T.self X.A 0 _ _ _ b4 loop)
theorem pe_dcT (hu : X.A.units + 1 < cLine) (hc : X.calm = true) (hN : X.N.Nodup) (hi : PI X tg iter wi) (ok : BlkOk X.N X.env.scope scope own)
    (hg : ∀ (s : Shared) (H : Hp) (C : Addr) (cl : List (Str × Addr)) (fp : List Addr), PG (X.blk s H scope (compEnvC scope cl C X.env) fp) tg g) (ht : ∀ (s : Shared) (H : Hp) (C : Addr) (cl : List (Str × Addr)) (fp : List Addr), PTs (X.blk s H scope (compEnvC scope cl C X.env) fp) ifs tt)
    (hk : ∀ (s : Shared) (H : Hp) (C : Addr) (cl : List (Str × Addr)) (fp : List Addr), PE (X.blk s H scope (compEnvC scope cl C X.env) fp) kx tk)
    (hv : ∀ (s : Shared) (H : Hp) (C : Addr) (cl : List (Str × Addr)) (fp : List Addr), PE (X.blk s H scope (compEnvC scope cl C X.env) fp) vx tv) (hs : ∀ x, foldedSetIterable iter X.env x = pure x := by intro _; rfl) :
    PE X (.DictComp kx vx [⟨tg, iter, ifs, 0⟩] scope pos) (tDcT wi g tt tk tv (own.map (·.2))) := by
  refine ⟨fun pins z0 σ H Q I h => ?_⟩
  rw [arm_eval_DictComp]
  refine dcT_core hu hc hN hi ok hg ht hk hv hs I h fun D C t' m H' I' fin hn f => ⟨m, hn, fun h'' sb => ?_⟩
  obtain ⟨f0, f1, f2, f3, f4, f5⟩ := f
  exact ⟨.ref D, H', I'.turned (t' := t'.toks) (fun b o hb e => (sb.2 b hb).trans e) f0 f1 f3 f4 f5, rfl, fin⟩
/-- y = {..}, y a local name -/
theorem ps_setDcT {i : Nat} {y : Str} {py spos : Pos} (hu : X.A.units + 1 < cLine) (hc : X.calm = true) (hN : X.N.Nodup) (hy : X.N[i]? = some y) (hl : X.env.scope.names.lookup y = some .local)
    (sw : swapsWith (.DictComp kx vx [⟨tg, iter, ifs, 0⟩] scope pos) (some (.Name y py)) spos.line X.env = pure true) (hi : PI X tg iter wi) (ok : BlkOk X.N X.env.scope scope own)
    (hg : ∀ (s : Shared) (H : Hp) (C : Addr) (cl : List (Str × Addr)) (fp : List Addr), PG (X.blk s H scope (compEnvC scope cl C X.env) fp) tg g) (ht : ∀ (s : Shared) (H : Hp) (C : Addr) (cl : List (Str × Addr)) (fp : List Addr), PTs (X.blk s H scope (compEnvC scope cl C X.env) fp) ifs tt)
    (hk : ∀ (s : Shared) (H : Hp) (C : Addr) (cl : List (Str × Addr)) (fp : List Addr), PE (X.blk s H scope (compEnvC scope cl C X.env) fp) kx tk)
    (hv : ∀ (s : Shared) (H : Hp) (C : Addr) (cl : List (Str × Addr)) (fp : List Addr), PE (X.blk s H scope (compEnvC scope cl C X.env) fp) vx tv) (hs : ∀ x, foldedSetIterable iter X.env x = pure x := by intro _; rfl) :
    PS X (.Assign [.Name y py] (.DictComp kx vx [⟨tg, iter, ifs, 0⟩] scope pos) spos) (tAsg (tDcT wi g tt tk tv (own.map (·.2))) (gName i)) := by
  refine ⟨fun pins z0 σ H D I h => ?_⟩
  rw [exec_Assign_Name_used _ _ _ _ sw]
  refine wpAny_bind (wpAny_standAt (wpAny_bind ?_))
  show wpAny _ X.A (do let _ ← comprehension (.DictComp kx vx [⟨tg, iter, ifs, 0⟩] scope pos) scope X.env (firstIterPos [⟨tg, iter, ifs, 0⟩] pos) newDict false (eval iter X.env) (some (assign (.Name y py) X.env))) _ _ z0
  have h : tDcT wi g tt tk tv (own.map (·.2)) σ H (fun x H1 => gName i x σ H1 D.nx) := h
  refine wpAny_bind (thn (dcT_core (Qf := fun _ t' => SP X pins D .next t') hu hc hN hi ok hg ht hk hv hs I h fun L C t' m H' I' q hn f => ?_) fun _ t' hq => wpAny_pure (wpAny_pure hq))
  show wpAny _ _ (assign (.Name y py) X.env (.ref L)) _ _ _
  refine wpAny_assign_Name (store_ok2 (v := V.ref L) I' hN hy (.inl hl) rfl (fun z2 I2 ⟨a, sb, ha⟩ => ?_) (.inr hl))
  obtain ⟨f0, f1, f2, f3, f4, f5⟩ := f
  have ne : C ≠ a := ha.elim (fun z => by rw [z]; exact f1) fun z => fun e => f4 y a z e.symm
  refine ⟨m, hn.sameBut sb ne, fun h3 sb3 => ?_⟩
  exact ⟨_, H', I2.turned (t' := z2.toks) (fun b o hb e => (sb3.2 b hb).trans e) f0 f1 f3 f4 f5, q⟩
end

/-! ### as data -/
def putF {κ : Type} [DecidableEq κ] (f : D → Option κ) (kvs : List (D × D)) (d v : D) : List (D × D) := if kvs.any (fun p => decide (f p.1 = f d)) = true then kvs.map (fun p => if f p.1 = f d then (p.1, v) else p) else kvs ++ [(d, v)]
def putD (b : Bool) (kvs : List (D × D)) (d v : D) : List (D × D) := match b with
  | true => putF tkeyD kvs d v
  | false => putF keyD kvs d v
def keyOk (b : Bool) (d : D) : Bool := match b with
  | true => (tkeyD d).isSome
  | false => (keyD d).isSome
def DctAt (K : PySem.W.Frag) (H S : Hp) (a : Addr) (b : Bool) (kvs : List (D × D)) : Prop := match b with
  | true => ∃ hs, H a = some (.dT hs) ∧ KVRep K S tkeyD kvs hs
  | false => ∃ hs, H a = some (.dK hs) ∧ KVRep K S keyD kvs hs
section
variable {K : PySem.W.Frag} {H H' S S' : Hp} {a : Addr}
theorem DctAt.orep {b : Bool} {kvs : List (D × D)} (h : DctAt K H S a b kvs) : ORep K H S a (.dct b kvs) := by
  cases b with
  | true => exact h
  | false => exact h
theorem DctAt.mono {b : Bool} {kvs : List (D × D)} (h : DctAt K H S a b kvs) (e : Same S S') (k : H' a = H a) : DctAt K H' S' a b kvs := by
  cases b with
  | true => exact let ⟨hs, h1, h2⟩ := h; ⟨hs, k.trans h1, paired_map h2 fun _ _ z => ⟨z.1, z.2.same e⟩⟩
  | false => exact let ⟨hs, h1, h2⟩ := h; ⟨hs, k.trans h1, paired_map h2 fun _ _ z => ⟨z.1, z.2.same e⟩⟩
theorem keyD_rep {d : D} {k : Key} {w : V} (h : keyD d = some k) (r : Rep K S d w) : w = kV k := by
  cases d with
  | int i => cases h; exact rep_int.mp r
  | str x => cases h; exact rep_str.mp r
  | _ => cases h
theorem keysD_rep : ∀ {ds : List D} {ks : List Key} {ws : List V}, keysD ds = some ks → RepL K S ds ws → ws = ks.map kV
  | [], ks, ws, h, r => by cases h; exact repL_nil.mp r
  | d :: ds, ks, ws, h, r => by
    unfold keysD at h
    split at h
    · rename_i k ks' h1 h2
      cases h
      obtain ⟨w, us, rfl, r1, r2⟩ := repL_cons.mp r
      rw [keyD_rep h1 r1, keysD_rep h2 r2]
      rfl
    · cases h
theorem tkeyD_rep {d : D} {ks : List Key} {w : V} (h : tkeyD d = some ks) (r : Rep K S d w) : ∃ b, w = .ref b ∧ S b = some (.tup (ks.map kV)) := by
  cases d with
  | tup ds =>
    obtain ⟨b, vs, rfl, h1, h2⟩ := rep_tupS.mp r
    rw [keysD_rep h h2] at h1
    exact ⟨b, rfl, h1⟩
  | _ => cases h
theorem kv_any {κ : Type} [DecidableEq κ] {f : D → Option κ} {d : D} {k : κ} (hk : f d = some k) : ∀ {kvs : List (D × D)} {hs : List (κ × V)}, KVRep K S f kvs hs → kvs.any (fun p => decide (f p.1 = f d)) = hs.any fun kv => decide (kv.1 = k) := by
  intro kvs hs h
  unfold KVRep at h
  induction h with
  | nil => rfl
  | @cons p q ps qs r t ih =>
    rw [List.any_cons, List.any_cons, ih]
    have e : decide (f p.1 = f d) = decide (q.1 = k) := by
      rw [hk, r.1]
      by_cases z : q.1 = k
      · rw [decide_eq_true z, z]; exact decide_eq_true rfl
      · rw [decide_eq_false z]; exact decide_eq_false fun y => z (Option.some.inj y)
    rw [e]
theorem kv_put {κ : Type} [DecidableEq κ] {f : D → Option κ} {d v : D} {k : κ} {w : V} {kvs : List (D × D)} {hs : List (κ × V)} (hk : f d = some k) (h : KVRep K S f kvs hs) (r : Rep K S v w) : KVRep K S f (putF f kvs d v) (putK hs k w) := by
  unfold putF putK
  rw [kv_any hk h]
  split
  · rename_i z0
    clear z0
    unfold KVRep at h ⊢
    induction h with
    | nil => exact .nil
    | @cons p q ps qs z t ih =>
      refine .cons ?_ ih
      show f (if f p.1 = f d then (p.1, v) else p).1 = some (if q.1 = k then (q.1, w) else q).1 ∧ Rep K S (if f p.1 = f d then (p.1, v) else p).2 (if q.1 = k then (q.1, w) else q).2
      by_cases e : q.1 = k
      · rw [if_pos e, if_pos (by rw [z.1, hk, e])]
        exact ⟨z.1, r⟩
      · rw [if_neg e, if_neg (by rw [z.1, hk]; exact fun y => e (Option.some.inj y))]
        exact z
  · rename_i z0
    clear z0
    unfold KVRep at h ⊢
    induction h with
    | nil => exact .cons ⟨hk, r⟩ .nil
    | cons z t ih => exact .cons z ih
theorem put_at {b : Bool} {kvs : List (D × D)} {d z : D} {y w : V} (h : DctAt K H S a b kvs) (hk : keyOk b d = true) (r1 : Rep K S d y) (r2 : Rep K S z w) (sub : Same S H) (sa : S a = none) (hl : kvs.length < sizeLine) : ∃ u, DPut H a y w (upd H a u) ∧ DctAt K (upd H a u) S a b (putD b kvs d z) := by
  cases b with
  | true =>
    obtain ⟨hs, h1, h2⟩ := h
    obtain ⟨k, hk⟩ := Option.isSome_iff_exists.mp (show (tkeyD d).isSome = true from hk)
    obtain ⟨c, rfl, hc⟩ := tkeyD_rep hk r1
    have e : kvs.length = hs.length := Paired.length h2
    exact ⟨_, .t h1 (sub _ _ hc) (by rw [← e]; exact hl), _, upd_same, kv_put hk h2 r2⟩
  | false =>
    obtain ⟨hs, h1, h2⟩ := h
    obtain ⟨k, hk⟩ := Option.isSome_iff_exists.mp (show (keyD d).isSome = true from hk)
    obtain rfl := keyD_rep hk r1
    have e : kvs.length = hs.length := Paired.length h2
    exact ⟨_, .k h1 (by rw [← e]; exact hl), _, upd_same, kv_put hk h2 r2⟩
end
def dcLoop (b : Bool) (vs : List Nat) (g : TF) (t : M Bool) (fk fv : M D) : List D → List (D × D) → M (List (D × D))
  | [], acc, e => .ok acc e
  | d :: ds, acc, e => match g d e with
    | none => .bad
    | some e1 => (match t e1 with
      | .ok true e2 => (match fk e2 with
        | .ok x e3 => (match fv e3 with
          | .ok z e4 => if keyOk b x = true ∧ acc.length < sizeLine then dcLoop b vs g t fk fv ds (putD b acc x z) (wipeE e4 vs) else .bad
          | _ => .bad)
        | _ => .bad)
      | .ok false e2 => dcLoop b vs g t fk fv ds acc (wipeE e2 vs)
      | _ => .bad)
def dDc (b : Bool) (fi : M (List D × Option Nat)) (vs : List Nat) (g : TF) (t : M Bool) (fk fv : M Val) : M Val := M.bind fi fun p e => match dcLoop b vs g t (M.bind fk frz) (M.bind fv frz) p.1 [] (wipeE (lockS p.2 e) vs) with
  | .ok kvs e' => .ok (.new (.dct b kvs)) (unlk (didLock p.2 e) e')
  | _ => .bad
/-- a comprehension's walk over n turns -/
theorem dc_it {J : It} {n : Nat} {G : Hp → Prop} {Y : Nat → Hp → V → Hp → Prop} (w : Walk J n G Y) {B : Nat → (Hp → Prop) → V → Hp → Prop} {H0 : Hp} {Qd : Hp → Prop} (Pv : Nat → Hp → Prop) (h0 : Pv 0 H0) (hG : ∀ i H, i ≤ n → Pv i H → G H)
    (hs : ∀ i x H H', i < n → Pv i H → Y i H x H' → B i (Pv (i + 1)) x H') (hd : ∀ H, Pv n H → Qd H) :
    ∃ Wl : Nat → Nat → Hp → Prop, (∃ m, Wl 0 m H0) ∧ ∀ i m H, Wl i m H → (J.stop i H ∧ Qd H) ∨ (J.go i H ∧ ∃ Nx : Hp → Prop, (∀ H', Nx H' → ∃ m', m' < m ∧ Wl (i + 1) m' H') ∧ ∀ x H', J.yld i H x H' → B i Nx x H') := by
  refine ⟨fun i m H => m = n - i ∧ i ≤ n ∧ Pv i H, ⟨n, by simp, Nat.zero_le _, h0⟩, ?_⟩
  rintro i m H ⟨rfl, hi, p⟩
  by_cases hlt : i < n
  · exact .inr ⟨w.goes i H hlt (hG i H hi p), Pv (i + 1), fun H' p' => ⟨n - (i + 1), by omega, rfl, hlt, p'⟩, fun x H' y => hs i x H H' hlt p (w.yields i H x H' hlt (hG i H hi p) y)⟩
  · have e : i = n := by omega
    subst e
    exact .inl ⟨w.stops H (hG i H hi p), hd H p⟩
/-- a value of an expression, laid down as data -/
theorem data_step {K : PySem.W.Frag} {fe : M Val} {σ : St} {H S : Hp} {e e' : Env} {x : D} {R : V → Hp → Prop} (A : Abs K σ H S e) (h : M.bind fe frz e = .ok x e')
    (st : ∀ H' S' w, Abs K σ H' S' e' → Ext σ e H S σ e' H' S' → Rep K S' x w → R w H') : tD K noW fe σ H R := by
  refine ⟨S, e, A, ?_⟩
  unfold M.bind at h
  cases q : fe e with
  | er y e5 => rw [q] at h; cases h
  | bad => rw [q] at h; cases h
  | ok v e5 =>
    rw [q] at h
    simp only at h
    intro H5 S5 y A5 E5 hv
    refine frz_step (W := noW) (k := fun x e => .ok x e) (At := fun (x : DL.D) H S e (w : V) => Rep K S x w) (Q := fun _ _ => True) A5 E5 hv ?_ fun x7 e7 S7 hf A7 E7 sm r7 _ => ?_
    · unfold M.bind
      rw [h]
      exact fun _ _ _ _ _ _ => trivial
    · rw [h] at hf
      cases hf
      exact st H5 S7 y A7 E7 r7
section
variable {K : PySem.W.Frag} {vs : List Nat} {g : TF} {t : M Bool} {fk fv : M Val} {b : Bool}
theorem dc_le {J : It} {ds : List D} {L : List (Addr × HO)} {σ : St} {H1 S1 : Hp} {e1 ef : Env} {xs : List (D × D)} {Q : VK} {Dn : Addr} (A : Abs K σ H1 S1 e1) (jr : JRep K J ds L S1) (hL : ∀ p ∈ L, H1 p.1 = some p.2 ∧ ¬ Own 0 σ e1 p.1 ∧ isTab p.2 = false)
    (hc : dcLoop b vs g t (M.bind fk frz) (M.bind fv frz) ds [] (wipeE e1 vs) = .ok xs ef) (hD : H1 Dn = none)
    (fin : ∀ H S, Abs K σ H S ef → Ext σ e1 H1 S1 σ ef H S → DctAt K H S Dn b xs → S Dn = none → ¬ Had σ ef Dn → Q (.ref Dn) H) :
    ∃ o0 : HO, (o0 = .dK [] ∨ o0 = .dT []) ∧ ∃ Wl : Nat → Nat → Hp → Prop, (∃ m, Wl 0 m (upd H1 Dn o0)) ∧ ∀ i m H, Wl i m H →
      (J.stop i H ∧ Q (.ref Dn) H) ∨ (J.go i H ∧ ∃ Nx : Hp → Prop, (∀ H', Nx H' → ∃ m', m' < m ∧ Wl (i + 1) m' H') ∧ ∀ x H', J.yld i H x H' → tDG K (outside vs) g x (wipe σ vs) H' fun σ2 H2 => wipe σ2 vs = wipe σ vs ∧ tDB K noW t σ2 H2 fun b H3 =>
        if b = true then tD K noW fk σ2 H3 fun y H4 => tD K noW fv σ2 H4 fun z H5 => ∃ H6, DPut H5 Dn y z H6 ∧ Nx H6 else Nx H3) := by
  obtain ⟨A0, E0⟩ := wipe_to (vs := vs) (σ2 := wipe σ vs) A (wipe_length _ _) fun j hj => wipe_get hj
  have E0 := E0 Ext.refl
  obtain ⟨o0, ho, d0⟩ : ∃ o0 : HO, (o0 = .dK [] ∨ o0 = .dT []) ∧ DctAt K (upd H1 Dn o0) S1 Dn b [] := by
    cases b with
    | true => exact ⟨.dT [], .inr rfl, [], upd_same, .nil⟩
    | false => exact ⟨.dK [], .inl rfl, [], upd_same, .nil⟩
  refine ⟨o0, ho, dc_it jr (fun i H => ∃ e S acc, Abs K (wipe σ vs) H S e ∧ Ext σ e1 H1 S1 (wipe σ vs) e H S ∧ DctAt K H S Dn b acc ∧ S Dn = none ∧ ¬ Had (wipe σ vs) e Dn ∧ (∃ e2, e = wipeE e2 vs) ∧ dcLoop b vs g t (M.bind fk frz) (M.bind fv frz) (ds.drop i) acc e = .ok xs ef)
    ⟨_, S1, [], abs_new A0 hD (own_tab d0.orep upd_same), E0.trans (ext_new hD), d0, A.sub.free hD, not_had A0 hD, ⟨e1, rfl⟩, by rw [List.drop_zero]; exact hc⟩ ?_ ?_ ?_⟩
  · rintro i H _ ⟨e, S, acc, A', E', _⟩
    exact ⟨fun p hp => (E'.fr p.1 p.2 (hL p hp).1 (hL p hp).2.1 (hL p hp).2.2).1, E'.sm.trans A'.sub⟩
  · rintro i x H H' hi ⟨e, S, acc, A', E', hus, sD, nD, _, hl⟩ hy
    obtain ⟨d, hd, dr⟩ := walk_some hi
    rw [dr] at hl
    obtain ⟨S2, A2, E2, r2⟩ := yield_abs A' E'.sm (hy d hd)
    unfold dcLoop at hl
    cases q : g d e with
    | none => rw [q] at hl; cases hl
    | some e3 =>
      rw [q] at hl
      simp only at hl
      refine ⟨S2, e, d, e3, A2, r2, q, fun σ3 A3 E3 P3 => ⟨?_, S2, e3, A3, ?_⟩⟩
      · rw [wipe_eq P3.1 fun j hj => P3.2 j (by unfold outside; simpa using hj), wipe_wipe]
      have wq : wipe σ3 vs = wipe σ vs := by rw [wipe_eq P3.1 fun j hj => P3.2 j (by unfold outside; simpa using hj), wipe_wipe]
      have E23 := E2.trans E3
      obtain ⟨u0, hu0, hm0⟩ := (DctAt.orep hus).thereM
      cases q2 : t e3 with
      | er y e4 => rw [q2] at hl; cases hl
      | bad => rw [q2] at hl; cases hl
      | ok c e4 =>
        rw [q2] at hl
        intro H4 S4 w A4 E4 hw
        cases hw
        have E24 := E23.trans E4
        have done : ∀ {σ5 : St} {H5 S5 : Hp} {e5 : Env}, wipe σ5 vs = wipe σ vs → Abs K σ5 H5 S5 e5 → Ext (wipe σ vs) e H S σ5 e5 H5 S5 → Abs K (wipe σ vs) H5 S5 (wipeE e5 vs) ∧ Ext σ e1 H1 S1 (wipe σ vs) (wipeE e5 vs) H5 S5 ∧ DctAt K H5 S5 Dn b acc ∧ S5 Dn = none ∧ ¬ Had (wipe σ vs) (wipeE e5 vs) Dn := fun {σ5 H5 S5 e5} w5 A5 E5 => by
          obtain ⟨A6, E6⟩ := wipe_to (vs := vs) (σ2 := wipe σ vs) A5 (by rw [← w5, wipe_length]) fun j hj => by rw [← w5, wipe_get hj]
          have E56 := E6 E5
          obtain ⟨k1, k2⟩ := E5.fr Dn _ hu0 (fun z => nD z.had) (mut_tab hm0)
          exact ⟨A6, E'.trans E56, hus.mono E5.sm (k1.trans hu0.symm), k2 hm0 sD, fun z => (E56.hd Dn z).elim nD fun y => by rw [hu0] at y; cases y⟩
        cases c with
        | false =>
          rw [if_neg Bool.false_ne_true]
          simp only at hl
          obtain ⟨B1, B2, B3, B4, B5⟩ := done wq A4 E24
          exact ⟨_, S4, acc, B1, B2, B3, B4, B5, ⟨e4, rfl⟩, hl⟩
        | true =>
          rw [if_pos rfl]
          simp only at hl
          cases q3 : M.bind fk frz e4 with
          | er y e5 => rw [q3] at hl; cases hl
          | bad => rw [q3] at hl; cases hl
          | ok x5 e5 =>
            rw [q3] at hl
            simp only at hl
            refine data_step A4 q3 fun H5 S5 y5 A5 E5 r5 => ?_
            cases q4 : M.bind fv frz e5 with
            | er y e6 => rw [q4] at hl; cases hl
            | bad => rw [q4] at hl; cases hl
            | ok x6 e6 =>
              rw [q4] at hl
              simp only at hl
              refine data_step A5 q4 fun H6 S6 y6 A6 E6 r6 => ?_
              split at hl
              · rename_i hz
                have E26 := (E24.trans E5).trans E6
                obtain ⟨B1, B2, B3, B4, B5⟩ := done wq A6 E26
                obtain ⟨u, p1, p2⟩ := put_at B3 hz.1 (r5.same E6.sm) r6 A6.sub B4 hz.2
                obtain ⟨u9, y1, y2, y3⟩ := B3.orep.thereX
                exact ⟨_, p1, _, S6, putD b acc x5 x6, wr_abs B1 B4 B5 y1 y2 y3 (own_tab p2.orep upd_same), wr_ext B2 hD y1 y2 y3, p2, B4, B5, ⟨e6, rfl⟩, hl⟩
              · cases hl
  · rintro H ⟨e, S, acc, A', E', hus, sD, nD, ⟨e2, he⟩, hl⟩
    rw [List.drop_length] at hl
    unfold dcLoop at hl
    have h1 : e = ef := by cases hl; rfl
    have h2 : acc = xs := by cases hl; rfl
    rw [h1] at he A' E' nD
    rw [h2] at hus
    have back : wipeE ef vs = ef := by rw [he, wipeE_wipeE]
    obtain ⟨A2, E2⟩ := wipe_to (vs := vs) (σ2 := σ) A' (by rw [wipe_length]) fun j hj => (wipe_get hj).symm
    rw [back] at A2 E2
    exact fin H S A2 (E2 E') hus sD fun z => nD (by
      obtain ⟨i, s, h1, h2, h3⟩ := z
      refine ⟨i, s, h1, h2, ?_⟩
      rw [he] at h1
      rcases wipeE_get h1 with rfl | ⟨k1, _⟩
      · cases h2
      · rw [wipe_get k1]; exact h3)
end
section
variable {X : Cx} {W : WX} {pos : Pos} {kx vx tg iter : Expr} {ifs : List Expr} {scope : Scope} {own : List (Str × Nat)} {fi : M (List D × Option Nat)} {g : TF} {t : M Bool} {fk fv : M Val}
theorem dc_tDc {K : PySem.W.Frag} {b : Bool} {vs : List Nat} {σ : St} {H : Hp} {Q : VK} (h : tD K W (dDc b fi vs g t fk fv) σ H Q) : tDcT (tDx K W (iAt K) fi) (tDG K (outside vs) g) (tDB K noW t) (tD K noW fk) (tD K noW fv) vs σ H Q := by
  obtain ⟨S, e, A, g0⟩ := h
  refine tDx.step A Ext.refl g0 fun p e1 H1 S1 J A1 E1 _ hJ g1 => ?_
  intro Dn hD
  obtain ⟨L, jr, hL⟩ := hJ
  cases q : dcLoop b vs g t (M.bind fk frz) (M.bind fv frz) p.1 [] (wipeE (lockS p.2 e1) vs) with
  | er y e' => rw [q] at g1; exact g1.elim
  | bad => rw [q] at g1; exact g1.elim
  | ok xs ef =>
    rw [q] at g1
    refine dc_le (lock_abs A1) jr (fun z hz => ?_) q hD fun H2 S2 A2 E2 hus sD nD => ?_
    · obtain ⟨h1, i, s, h2, h3, h4, h5⟩ := hL z hz
      exact ⟨h1, lock_L A1 h2 h3 h4 h5, had_tab A1 h3 h4 h5 h1⟩
    · obtain ⟨A3, E3⟩ := unlock_ok A1 A2 E2
      exact g1 H2 S2 (.ref Dn) A3 (E1.trans E3) ⟨Dn, rfl, sD, hus.orep, fun z => nD (had_unlk z), E1.tr Dn hD⟩
/-- {.. : .. for .. in .. if ..} -/
theorem de_dc (b : Bool) (hu : X.A.units + 65 < cLine) (hc : X.calm = true) (hN : X.N.Nodup) (hi : DI X W tg iter fi) (ok : BlkOk X.N X.env.scope scope own)
    (hg : ∀ (s : Shared) (H : Hp) (C : Addr) (cl : List (Str × Addr)) (fp : List Addr), DG (X.blk s H scope (compEnvC scope cl C X.env) fp) (outside (own.map (·.2))) tg g)
    (ht : ∀ (s : Shared) (H : Hp) (C : Addr) (cl : List (Str × Addr)) (fp : List Addr), DTs (X.blk s H scope (compEnvC scope cl C X.env) fp) noW ifs t)
    (hk : ∀ (s : Shared) (H : Hp) (C : Addr) (cl : List (Str × Addr)) (fp : List Addr), DE (X.blk s H scope (compEnvC scope cl C X.env) fp) noW kx fk)
    (hv : ∀ (s : Shared) (H : Hp) (C : Addr) (cl : List (Str × Addr)) (fp : List Addr), DE (X.blk s H scope (compEnvC scope cl C X.env) fp) noW vx fv) (hs : ∀ x, foldedSetIterable iter X.env x = pure x := by intro _; rfl) :
    DE X W (.DictComp kx vx [⟨tg, iter, ifs, 0⟩] scope pos) (dDc b fi (own.map (·.2)) g t fk fv) :=
  ⟨PE.weak (pe_dcT (by omega) hc hN hi.pi ok (fun s H C cl fp => (hg s H C cl fp).pg) (fun s H C cl fp => (ht s H C cl fp).pts) (fun s H C cl fp => (hk s H C cl fp).pe) (fun s H C cl fp => (hv s H C cl fp).pe) hs) fun _ _ _ h => dc_tDc h⟩
/-- x = {..}, x a local -/
theorem ds_setDc (b : Bool) {np i : Nat} {y : Str} {py spos : Pos} (hu : X.A.units + 65 < cLine) (hi' : np ≤ i) (hc : X.calm = true) (hN : X.N.Nodup) (hy : X.N[i]? = some y) (hyl : X.env.scope.names.lookup y = some .local)
    (hsw : swapsWith (.DictComp kx vx [⟨tg, iter, ifs, 0⟩] scope pos) (some (.Name y py)) spos.line X.env = pure true) (hi : DI X W tg iter fi) (ok : BlkOk X.N X.env.scope scope own)
    (hg : ∀ (s : Shared) (H : Hp) (C : Addr) (cl : List (Str × Addr)) (fp : List Addr), DG (X.blk s H scope (compEnvC scope cl C X.env) fp) (outside (own.map (·.2))) tg g)
    (ht : ∀ (s : Shared) (H : Hp) (C : Addr) (cl : List (Str × Addr)) (fp : List Addr), DTs (X.blk s H scope (compEnvC scope cl C X.env) fp) noW ifs t)
    (hk : ∀ (s : Shared) (H : Hp) (C : Addr) (cl : List (Str × Addr)) (fp : List Addr), DE (X.blk s H scope (compEnvC scope cl C X.env) fp) noW kx fk)
    (hv : ∀ (s : Shared) (H : Hp) (C : Addr) (cl : List (Str × Addr)) (fp : List Addr), DE (X.blk s H scope (compEnvC scope cl C X.env) fp) noW vx fv) (hs : ∀ x, foldedSetIterable iter X.env x = pure x := by intro _; rfl) :
    DS X W np (.Assign [.Name y py] (.DictComp kx vx [⟨tg, iter, ifs, 0⟩] scope pos) spos) (sSet i (dDc b fi (own.map (·.2)) g t fk fv)) :=
  ⟨PS.weak (ps_setDcT (by omega) hc hN hy hyl hsw hi.pi ok (fun s H C cl fp => (hg s H C cl fp).pg) (fun s H C cl fp => (ht s H C cl fp).pts) (fun s H C cl fp => (hk s H C cl fp).pe) (fun s H C cl fp => (hv s H C cl fp).pe) hs) fun D σ H ⟨S, e, A, k⟩ => by
    refine dc_tDc (W := W) (t := t) (g := g) (fk := fk) (fv := fv) (b := b) (Q := fun w H' => D.nx (σ.set i (some w)) H') ?_
    refine sBind.step A k fun v e' H' S' w A' E' hv gl => ?_
    exact set_le hi' A' E' hv gl⟩
end
theorem sw_dct {kx vx : Expr} {gs : List Comprehension} {scope : Scope} {pos py : Pos} {y : Str} {l : Nat} {env : PySem.Env} (h1 : env.scope.kind = .function) (h2 : env.scope.names.lookup y = some .local) (h3 : (py.line == pos.line) = true)
    (h4 : (scope.names.any fun (n, k) => n == y && (k == .local || k == .cell)) = false) : swapsWith (.DictComp kx vx gs scope pos) (some (.Name y py)) l env = pure true := by
  have e1 : env.kindOf y = some .local := h2
  have e2 : env.blockKind = .function := by unfold PySem.Env.blockKind; rw [h1]; rfl
  unfold swapsWith
  simp only [e2, e1, h4, Expr.pos, h3]
  rfl
end DL

set_option maxHeartbeats 4000000
/-! DL15: dicts read: in, not in, list(d); list(range(..)). -/
namespace DL
open PySem PySem.Spec PyProof.Rows L2
variable [TabsT]

section
variable {K : PySem.W.Frag} {σ : St} {H0 H S : Hp} {e : Env}
theorem VAt.viewO {v : Val} {w : V} {o : O} (A : Abs K σ H S e) (h : VAt K σ H0 H S e v w) (hv : vwO e v = some o) : ∃ a, w = .ref a ∧ S a = none ∧ ORep K H S a o := by
  cases v with
  | d y => cases hv
  | new o' =>
    cases hv
    obtain ⟨a, h1, h2, h3, _⟩ := h
    exact ⟨a, h1, h2, h3⟩
  | at_ i =>
    obtain ⟨s, h1, h2, h3⟩ := h
    have hv : (e[i]?).bind SV.o = some o := hv
    rw [h1] at hv
    have k := A.at_ i s h1
    cases s with
    | no => cases hv
    | sh d => cases hv
    | ow o' =>
      cases hv
      obtain ⟨a, k1, k2, k3⟩ := k
      rw [h3] at k1
      cases k1
      exact ⟨a, rfl, k2, k3⟩
    | lk o' =>
      cases hv
      obtain ⟨a, k1, k2, k3⟩ := k
      rw [h3] at k1
      cases k1
      exact ⟨a, rfl, k2, k3⟩
theorem kv_val {κ : Type} [DecidableEq κ] {f : D → Option κ} {d : D} {k : κ} {kvs : List (D × D)} {hs : List (κ × V)} (hk : f d = some k) (h : KVRep K S f kvs hs) : (valV hs k).isSome = kvs.any (fun p => decide (f p.1 = f d)) := by
  rw [kv_any hk h]
  exact (valV_any k hs).symm
end

/-! ### k in d -/
def hasKey (b : Bool) (kvs : List (D × D)) (d : D) : Bool := match b with
  | true => kvs.any (fun p => decide (tkeyD p.1 = tkeyD d))
  | false => kvs.any (fun p => decide (keyD p.1 = keyD d))
def inV2 (v u : Val) : M Val := fun e => match vwO e u with
  | some (.dct b kvs) => (match v with
    | .d x => if keyOk b x = true then .ok (.d (.bl (hasKey b kvs x))) e else .bad
    | _ => .bad)
  | _ => inV v u e
def niV2 (v u : Val) : M Val := fun e => match vwO e u with
  | some (.dct b kvs) => (match v with
    | .d x => if keyOk b x = true then .ok (.d (.bl (!hasKey b kvs x))) e else .bad
    | _ => .bad)
  | _ => niV v u e
def rInDct : R2 := fun y x H Q => ∃ a o, x = .ref a ∧ DGet H a y o ∧ Q (.bl o.isSome) H
def rNiDct : R2 := fun y x H Q => ∃ a o, x = .ref a ∧ DGet H a y o ∧ Q (.bl (!o.isSome)) H
section
variable {X : Cx}
theorem op_inDct (hu : X.A.units + 65 < cLine) : OpR X (compareOp .In) rInDct := by
  intro pins s σ H x y v u Q I rx ry h
  obtain ⟨a, o, rfl, g, q⟩ := h
  obtain rfl : u = Value.ref a := ry
  exact d_in (by omega) I g rx fun s3 I3 => ⟨.bl o.isSome, H, I3, rfl, q⟩
theorem op_niDct (hu : X.A.units + 65 < cLine) : OpR X (compareOp .NotIn) rNiDct := by
  intro pins s σ H x y v u Q I rx ry h
  obtain ⟨a, o, rfl, g, q⟩ := h
  obtain rfl : u = Value.ref a := ry
  exact d_notIn (by omega) I g rx fun s3 I3 => ⟨.bl (!o.isSome), H, I3, rfl, q⟩
def rIn2 (K : PySem.W.Frag) : R2 := fun x y H Q => rInA K x y H Q ∨ rInDct x y H Q
def rNi2 (K : PySem.W.Frag) : R2 := fun x y H Q => rNiA K x y H Q ∨ rNiDct x y H Q
theorem op_in2 (hu : X.A.units + 65 < cLine) : OpR X (compareOp .In) (rIn2 X.K) := (op_inA hu).or (op_inDct hu)
theorem op_ni2 (hu : X.A.units + 65 < cLine) : OpR X (compareOp .NotIn) (rNi2 X.K) := (op_niA hu).or (op_niDct hu)
end
theorem get_of {K : PySem.W.Frag} {H S : Hp} {a : Addr} {b : Bool} {kvs : List (D × D)} {x : D} {w : V} (hk : keyOk b x = true) (r : Rep K S x w) (sub : Same S H) (h : ORep K H S a (.dct b kvs)) : ∃ o, DGet H a w o ∧ o.isSome = hasKey b kvs x := by
  cases b with
  | true =>
    obtain ⟨hs, h1, h2⟩ := h
    obtain ⟨k, hk⟩ := Option.isSome_iff_exists.mp (show (tkeyD x).isSome = true from hk)
    obtain ⟨c, rfl, hc⟩ := tkeyD_rep hk r
    exact ⟨_, .t h1 (sub _ _ hc), kv_val hk h2⟩
  | false =>
    obtain ⟨hs, h1, h2⟩ := h
    obtain ⟨k, hk⟩ := Option.isSome_iff_exists.mp (show (keyD x).isSome = true from hk)
    obtain rfl := keyD_rep hk r
    exact ⟨_, .k h1, kv_val hk h2⟩
theorem in2D {K : PySem.W.Frag} : OpD K inV2 (rIn2 K) := by
  intro W σ H0 S0 e0 H S e v u w1 w2 Q A E h1 h2 g
  unfold inV2 at g
  split at g
  · rename_i b kvs q
    split at g
    · rename_i x
      split at g
      · rename_i hk
        obtain ⟨a, rfl, _, ho⟩ := h2.viewO A q
        obtain ⟨o, k1, k2⟩ := get_of hk (show Rep K S x w1 from h1) A.sub ho
        exact .inr ⟨a, o, rfl, k1, fin_d A E (by rw [k2]; exact rep_bl.mpr rfl) g⟩
      · exact g.elim
    · exact g.elim
  · exact .inl (inD W σ H0 S0 e0 H S e v u w1 w2 Q A E h1 h2 g)
theorem ni2D {K : PySem.W.Frag} : OpD K niV2 (rNi2 K) := by
  intro W σ H0 S0 e0 H S e v u w1 w2 Q A E h1 h2 g
  unfold niV2 at g
  split at g
  · rename_i b kvs q
    split at g
    · rename_i x
      split at g
      · rename_i hk
        obtain ⟨a, rfl, _, ho⟩ := h2.viewO A q
        obtain ⟨o, k1, k2⟩ := get_of hk (show Rep K S x w1 from h1) A.sub ho
        exact .inr ⟨a, o, rfl, k1, fin_d A E (by rw [k2]; exact rep_bl.mpr rfl) g⟩
      · exact g.elim
    · exact g.elim
  · exact .inl (niD W σ H0 S0 e0 H S e v u w1 w2 Q A E h1 h2 g)

theorem keysD_to {K : PySem.W.Frag} {S : Hp} : ∀ {ds : List D} {ks : List Key}, keysD ds = some ks → RepL K S ds (ks.map kV)
  | [], ks, h => by cases h; exact .nil
  | d :: ds, ks, h => by
    unfold keysD at h
    split at h
    · rename_i k ks' h1 h2
      cases h
      refine .cons ?_ (keysD_to h2)
      cases d with
      | int i => cases h1; exact rep_int.mpr rfl
      | str x => cases h1; exact rep_str.mpr rfl
      | _ => cases h1
    · cases h
theorem keys_join {K : PySem.W.Frag} {σ : St} {H : Hp} {e : Env} : ∀ {kvs : List (D × D)} {hs : List (List Key × V)} {bs : List Addr} {S S1 : Hp}, KVRep K S1 tkeyD kvs hs → IsKeys H hs bs → Abs K σ H S e → ∃ S', Abs K σ H S' e ∧ Ext σ e H S σ e H S' ∧ RepL K S' (kvs.map (·.1)) (bs.map V.ref)
  | _, _, _, S, S1, .nil, .nil, A => ⟨S, A, Ext.refl, .nil⟩
  | _, _, _, S, S1, .cons (a := p) (l₁ := ps) r t, .cons (b := b) z ts, A => by
    obtain ⟨S2, A2, E2, h2⟩ := tup_join A z
    obtain ⟨S3, A3, E3, h3⟩ := keys_join t ts A2
    refine ⟨S3, A3, E2.trans E3, .cons ?_ h3⟩
    have k := r.1
    show Rep K S3 p.1 (.ref b)
    cases q : p.1 with
    | tup ds =>
      rw [q] at k
      exact rep_tupS.mpr ⟨b, _, rfl, E3.sm _ _ h2, keysD_to k⟩
    | _ => rw [q] at k; cases k

/-! ### list(d) -/
def listC2 (vs : List Val) : M Val := fun e => match vs with
  | [v] => (match vwO e v with
    | some (.dct _ kvs) => .ok (.new (.lst (kvs.map (·.1)))) e
    | _ => listC [v] e)
  | _ => .bad
def rList2 (K : PySem.W.Frag) : List V → Hp → VK → Prop := fun xs H Q => (∃ p ys, xs = [.ref p] ∧ (SqL K H p ys ∨ SqT K H p ys) ∧ ∀ l, H l = none → Q (.ref l) (upd H l (.lst ys))) ∨ rListD xs H Q ∨
  ∃ d kvs, xs = [V.ref d] ∧ Rd H d (.dT kvs) ∧ ∀ p bs, H p = none → IsKeys H kvs bs → Q (.ref p) (upd H p (.lst (bs.map V.ref)))
theorem CallR.or {X : Cx} {f : Value} {r r' : List V → Hp → VK → Prop} (h : CallR X f r) (h' : CallR X f r') : CallR X f (fun xs H Q => r xs H Q ∨ r' xs H Q) := fun pins s σ H xs us Q I rv h0 => h0.elim (h pins s σ H xs us Q I rv) (h' pins s σ H xs us Q I rv)
theorem call_list2 {X : Cx} (hc : X.calm = true) : CallR X (.type "list") (rList2 X.K) := CallR.or call_list_of (CallR.or (call_list_dK hc) (call_list_dT hc))
theorem list2D {K : PySem.W.Frag} : CallD K listC2 (rList2 K) := by
  intro W σ H0 S0 e0 H S e vs ws Q A E h g
  unfold listC2 at g
  split at g
  · rename_i v
    split at g
    · rename_i b kvs q
      obtain ⟨w, rfl, h1⟩ := vs1 h
      obtain ⟨a, rfl, _, ho⟩ := h1.viewO A q
      cases b with
      | true =>
        obtain ⟨hs, k1, k2⟩ := ho
        refine .inr (.inr ⟨a, hs, rfl, .inl k1, fun p bs hp hk => ?_⟩)
        obtain ⟨S', A', E', r'⟩ := keys_join k2 hk A
        exact fin_lst A' (E.trans E') r' hp g
      | false =>
        obtain ⟨hs, k1, k2⟩ := ho
        refine .inr (.inl ⟨a, hs, rfl, k1, fun p hp => fin_lst A E ?_ hp g⟩)
        clear k1 g q
        unfold KVRep at k2
        induction k2 with
        | nil => exact .nil
        | @cons x y l1 l2 r t ih =>
          refine .cons ?_ ih
          have k := r.1
          show Rep K S x.1 (kV y.1)
          cases q : x.1 with
          | int i => rw [q] at k; rw [← Option.some.inj (show some (Sum.inl i) = some y.1 from k)]; exact rep_int.mpr rfl
          | str z => rw [q] at k; rw [← Option.some.inj (show some (Sum.inr z) = some y.1 from k)]; exact rep_str.mpr rfl
          | _ => rw [q] at k; cases k
    · exact .inl (listD W σ H0 S0 e0 H S e [v] ws Q A E h g)
  · exact g.elim
/-! ### list(range(..)) -/
def okRg (a b : Int) : Bool := in62 a && in62 b && decide ((b - a).toNat ≤ 2 ^ 24)
def lrg1 (xs : List D) : M Val := fun e => match xs with
  | [.int j] => if okRg 0 j = true then .ok (.new (.lst (rangeD 0 j.toNat))) e else .bad
  | _ => .bad
def lrg2 (xs : List D) : M Val := fun e => match xs with
  | [.int i, .int j] => if okRg i j = true then .ok (.new (.lst (rangeD i (j - i).toNat))) e else .bad
  | _ => .bad
section
variable {X : Cx} {W : WX} {p p2 pos pos2 : Pos}
end
end DL

set_option maxHeartbeats 4000000
/-! DL16: comprehensions within comprehensions; two fors in one. -/
namespace DL
open PySem PySem.Spec PyProof.Rows L2
variable [TabsT]

/-! ### within another's block -/
section
variable {X0 : Cx} {s0 : Shared} {H0 : Hp} {sc0 : Scope} {cl0 : List (Str × Addr)} {C0 : Addr} {fp0 : List Addr} {W : WX} {pos : Pos} {elt tg iter : Expr} {ifs : List Expr} {scope : Scope} {own : List (Str × Nat)} {fi : M (List D × Option Nat)} {g : TF} {t : M Bool} {fe : M Val} {N : List Str} {scF : Scope}
theorem de_compI (hc : X0.calm = true) (hN : X0.N.Nodup) (hi : DI (X0.blk s0 H0 sc0 (compEnvC sc0 cl0 C0 X0.env) fp0) W tg iter fi) (eN : X0.N = N) (eS : X0.env.scope = scF) (ok : BlkOk N (relS sc0 scF) scope own)
    (hg : ∀ (s : Shared) (H : Hp) (C : Addr) (cl : List (Str × Addr)) (fp : List Addr), DG ((X0.blk s0 H0 sc0 (compEnvC sc0 cl0 C0 X0.env) fp0).blk s H scope (compEnvC scope cl C (compEnvC sc0 cl0 C0 X0.env)) fp) (outside (own.map (·.2))) tg g)
    (ht : ∀ (s : Shared) (H : Hp) (C : Addr) (cl : List (Str × Addr)) (fp : List Addr), DTs ((X0.blk s0 H0 sc0 (compEnvC sc0 cl0 C0 X0.env) fp0).blk s H scope (compEnvC scope cl C (compEnvC sc0 cl0 C0 X0.env)) fp) noW ifs t)
    (he : ∀ (s : Shared) (H : Hp) (C : Addr) (cl : List (Str × Addr)) (fp : List Addr), DE ((X0.blk s0 H0 sc0 (compEnvC sc0 cl0 C0 X0.env) fp0).blk s H scope (compEnvC scope cl C (compEnvC sc0 cl0 C0 X0.env)) fp) noW elt fe)
    (hs : ∀ x, foldedSetIterable iter (X0.blk s0 H0 sc0 (compEnvC sc0 cl0 C0 X0.env) fp0).env x = pure x := by intro _; rfl) :
    DE (X0.blk s0 H0 sc0 (compEnvC sc0 cl0 C0 X0.env) fp0) W (.ListComp elt [⟨tg, iter, ifs, 0⟩] scope pos) (dComp fi (own.map (·.2)) g t fe) := by
  subst eN eS
  exact de_comp (X := X0.blk s0 H0 sc0 (compEnvC sc0 cl0 C0 X0.env) fp0) hc hN hi ok hg ht he hs
end

/-! ### two fors -/
def dropAt (H : Hp) (D : Addr) : Hp := fun b => if b = D then none else H b
section
variable {K : PySem.W.Frag} {σ σ0 : St} {H S H0 S0 : Hp} {e e0 : Env} {D : Addr}
end
section
variable {K : PySem.W.Frag} {vs : List Nat} {g : TF} {t : M Bool} {fe : M Val}
end
/-- the second for's loop for one item of the first -/
def innerL (vs1 : List Nat) (fi1 : M (List D × Option Nat)) (g1 : TF) (t1 : M Bool) (el : M D) (acc : List D) : M (List D) := fun e0 => match fi1 e0 with
  | .ok p e => (match compLoop vs1 g1 t1 el p.1 acc (wipeE (lockS p.2 e) vs1) with
    | .ok xs e' => .ok xs (unlk (didLock p.2 e) e')
    | _ => .bad)
  | _ => .bad
def compLoop2 (vs vs1 : List Nat) (g : TF) (t : M Bool) (fi1 : M (List D × Option Nat)) (g1 : TF) (t1 : M Bool) (el : M D) : List D → List D → M (List D)
  | [], acc, e => .ok acc e
  | d :: ds, acc, e => match g d e with
    | none => .bad
    | some e1 => (match t e1 with
      | .ok true e2 => (match innerL vs1 fi1 g1 t1 el acc e2 with
        | .ok acc' e3 => compLoop2 vs vs1 g t fi1 g1 t1 el ds acc' (wipeE e3 vs)
        | _ => .bad)
      | .ok false e2 => compLoop2 vs vs1 g t fi1 g1 t1 el ds acc (wipeE e2 vs)
      | _ => .bad)
def dComp2 (fi : M (List D × Option Nat)) (vs : List Nat) (g : TF) (t : M Bool) (vs1 : List Nat) (fi1 : M (List D × Option Nat)) (g1 : TF) (t1 : M Bool) (fe : M Val) : M Val := M.bind fi fun p e => match compLoop2 vs vs1 g t fi1 g1 t1 (M.bind fe frz) p.1 [] (wipeE (lockS p.2 e) vs) with
  | .ok xs e' => .ok (.new (.lst xs)) (unlk (didLock p.2 e) e')
  | _ => .bad
section
variable {K : PySem.W.Frag} {vs vs1 : List Nat} {g g1 : TF} {t t1 : M Bool} {fe : M Val} {fi fi1 : M (List D × Option Nat)} {W : WX}
end
section
variable {X : Cx} {W : WX} {np : Nat} {pos : Pos} {elt tg iter tg1 iter1 : Expr} {ifs ifs1 : List Expr} {scope : Scope} {own : List (Str × Nat)} {vs1 : List Nat} {fi fi1 : M (List D × Option Nat)} {g g1 : TF} {t t1 : M Bool} {fe : M Val}
end
end DL

set_option maxHeartbeats 4000000
/-! DL17: sorted(xs) of a list of alike data. -/
namespace DL
open PySem PySem.Spec PyProof.Rows L2
variable [TabsT]

/-! ### tuples of which the first has no item -/
section
open PySem.W PySem.SeqAt
variable {P : Program} {w : World} {A : Around} {E : Value → Shared → Prop} {s : Shared}
theorem tup_lt_call {l b : Addr} {xs ys : Array Value} {Q : Value → Shared → Prop} {e r : Nat → Bool} (hl : s.heap.IsTuple l xs) (hb : s.heap.IsTuple b ys)
    (he : ∀ j (h1 : j < xs.size) (h2 : j < ys.size), EqAt A.in1 s xs[j] ys[j] (e j)) (hr : ∀ j (h1 : j < xs.size) (h2 : j < ys.size), e j = false → RcLt A.in1 s xs[j] ys[j] (r j))
    (h : Q (.bool (firstLt e r (decide (xs.size < ys.size)) (List.range (min xs.size ys.size)))) s) : wpAny (model P w) A (call (.builtin "tuple.__lt__") [.ref l, .ref b]) Q E s := by
  obtain ⟨⟨c1, d1, t1, s1⟩, o1, k1, n1, q1⟩ := id hl
  obtain ⟨⟨c2, d2, t2, s2⟩, o2, k2, n2, q2⟩ := id hb
  simp only at k1 q1 k2 q2
  subst k1 q1 k2 q2
  exact call_meets F.slot_tuple_lt ⟨_, o1, rfl⟩ F.entry_tuple_lt (F.args_tuple_lt_2 _ _) (tuple_ltAt l b xs ys n1 n2 d1 d2 s1 s2 e r) ⟨o1, o2, he, hr, h⟩
theorem tup_oneLt {xs ys : List PyData} {a b : Value} {as bs : List Addr} {Q : Bool → Shared → Prop} (ra : Reads s.heap a (.tuple xs) as) (rb : Reads s.heap b (.tuple ys) bs) (hal : alikeAll xs ys = true)
    (hu : A.units + min (PyData.tuple xs).depth (PyData.tuple ys).depth < cLine) (hq : Q (dataLt (.tuple xs) (.tuple ys)) s) : wpAny (model P w) A (oneLt' true a b) Q E s := by
  cases ra with
  | @tuple l o vs n _ as1 h1 h2 h3 h4 =>
    cases rb with
    | @tuple l2 o2 vs2 n2 _ bs1 k1 k2 k3 k4 =>
      have e1 : vs.size = xs.length := by simpa using ReadsAll.length _ _ _ h4
      have e2 : vs2.size = ys.length := by simpa using ReadsAll.length _ _ _ k4
      rw [dataLt_tuple, ← firstLt_toks xs ys hal, ← e1, ← e2] at hq
      rw [oneLt'_eq]
      simp only [if_true]
      refine wpAny_bind (wpAny_cRoomFor (room_here hu) ?_)
      refine wpAny_bind (wpAny_callSpecialIfBound?_slot (T := "tuple") ⟨_, h1, h2⟩ F.slot_tuple_lt (tup_lt_call (e := pairEq xs ys) (r := fun j => dataLt (xs.getD j .none) (ys.getD j .none)) ⟨_, h1, h2, _, h3⟩ ⟨_, k1, k2, _, k3⟩ (fun j j1 j2 => ?_) (fun j j1 j2 hj => ?_) (wpAny_truthy_bool hq)))
      · have q := eqAt_alikeAll xs ys A.in1 s vs.toList vs2.toList _ _ h4 k4 hal (room_in hu) j (by simpa using j1) (by simpa using j2)
        simpa using q
      · have q := rcLt_alikeAll xs ys A.in1 s vs.toList vs2.toList _ _ h4 k4 hal (room_in hu) j (by simpa using j1) (by simpa using j2) hj
        simpa using q
/-- the first items of tuples, some of which have none -/
theorem tup_firsts : ∀ {vs : List Value} {ds : List PyData} {Q : List (Option Value) → Shared → Prop}, EachIs (fun v d => ∃ as, Reads s.heap v d as) vs ds → (∀ d ∈ ds, ∃ xs, d = .tuple xs) → (∀ fs, fs.length = vs.length → (∀ r, ds = .tuple [] :: r → ∃ t, fs = none :: t) → Q fs s) →
    wpAny (model P w) A (vs.mapM firstOfTuple') Q E s
  | [], _, Q, .nil, _, h => by rw [List.mapM_nil]; exact wpAny_pure (h [] rfl fun r e => by cases e)
  | v :: vs, d :: ds, Q, .cons ⟨as, r⟩ t, ht, h => by
    obtain ⟨xs, rfl⟩ := ht d (List.mem_cons_self ..)
    cases r with
    | @tuple a o us n _ _ ho hc hd hr =>
      rw [List.mapM_cons]
      refine wpAny_bind ?_
      rw [kas_first_eq]
      refine wpAny_bind (Looks.here (show Looks (model P w) s.heap (typeOf (.ref a)) o.cls from (Looks.ld ho).andThen .now) ?_)
      rw [hc, if_neg (by first | decide | simp)]
      refine wpAny_bind (listItems_at ho hd (wpAny_pure ?_))
      refine wpAny_bind (tup_firsts t (fun d hd => ht d (List.mem_cons_of_mem _ hd)) fun fs hl _ => wpAny_pure (h _ (by simp [hl]) fun r e => ?_))
      cases e
      have z : us.toList = [] := by
        have q := ReadsAll.length _ _ _ hr
        exact List.eq_nil_of_length_eq_zero (by simpa using q)
      refine ⟨fs, ?_⟩
      have z2 : us[0]? = none := by rw [← Array.getElem?_toList, z]; rfl
      rw [z2]
theorem tup_kind {vs : List Value} {ds : List PyData} {Q : SortKind → Shared → Prop} (e : EachIs (fun v d => ∃ as, Reads s.heap v d as) vs (.tuple [] :: ds)) (ht : ∀ d ∈ ds, ∃ xs, d = .tuple xs) (h : Q oneType' s) : wpAny (model P w) A (keyKind' vs.toArray) Q E s := by
  have ht' : ∀ d ∈ PyData.tuple [] :: ds, ∃ xs, d = .tuple xs := fun d hd => by
    rcases List.mem_cons.mp hd with rfl | hd
    · exact ⟨_, rfl⟩
    · exact ht d hd
  have hT : ∀ v ∈ vs, Looks (model P w) s.heap (typeOf v) (.type "tuple") := fun v hv => by
    obtain ⟨d, hd, as, r⟩ := e.left v hv
    obtain ⟨xs, rfl⟩ := ht' d hd
    exact looks_reads r
  have hne : ∃ v vr, vs = v :: vr := by cases e; exact ⟨_, _, rfl⟩
  rw [keyKind'_eq, List.mapM_toArray, map_eq_pure_bind]
  refine wpAny_bind (wpAny_bind (tup_firsts e ht' fun fs hl hf => wpAny_pure ?_))
  obtain ⟨t, rfl⟩ := hf ds rfl
  rw [if_neg (by simp), if_neg (by simp)]
  rw [oneTypeOnly'_eq, List.mapM_toArray, map_eq_pure_bind]
  refine wpAny_bind (wpAny_bind (wpAny_bind (kas_mapM (r := Value.type "tuple") _ (fun v hv Q' hq => (hT v hv).here hq) (wpAny_pure ?_))))
  obtain ⟨v, vr, rfl⟩ := hne
  have h0 : (List.map (fun _ => Value.type "tuple") (v :: vr)).toArray[0]? = some (.type "tuple") := by simp
  have hall : ((List.map (fun _ => Value.type "tuple") (v :: vr)).toArray.all fun x => x == Value.type "tuple") = true := by
    simp only [List.all_toArray, List.all_map, List.all_eq_true]
    intro _ _
    rfl
  rw [h0]
  simp only [hall, if_true]
  exact wpAny_pure (wpAny_pure h)
theorem sortsAt_empty {vs : List Value} {ds : List PyData} (e : EachIs (fun v d => ∃ as, Reads s.heap v d as) vs (.tuple [] :: ds)) (hal : AllAlike (.tuple [] :: ds)) (ht : ∀ d ∈ ds, ∃ xs, d = .tuple xs) (hu : ∀ d ∈ PyData.tuple [] :: ds, A.units + d.depth < cLine) :
    SortsAt P w A s (dataKind s.heap (.tuple [] :: ds)) vs := by
  have ht' : ∀ d ∈ PyData.tuple [] :: ds, ∃ xs, d = .tuple xs := fun d hd => by
    rcases List.mem_cons.mp hd with rfl | hd
    · exact ⟨_, rfl⟩
    · exact ht d hd
  refine ⟨fun v hv => ?_, oneType', ?_, fun h2 E Q hq => tup_kind e ht hq⟩
  · obtain ⟨d, hd, as, r⟩ := e.left v hv
    exact ⟨_, dataKind_some hal hd r⟩
  · intro E x y a b Q ha hb hq
    obtain ⟨d, as, hd, ra, rfl⟩ := dataKind_inv ha
    obtain ⟨d', as', hd', rb, rfl⟩ := dataKind_inv hb
    obtain ⟨xs, rfl⟩ := ht' d hd
    obtain ⟨ys, rfl⟩ := ht' d' hd'
    have z := hal _ hd _ hd'
    rw [keyLt'_oneType]
    exact tup_oneLt ra rb (by simpa [alike] using z) (Nat.lt_of_le_of_lt (Nat.add_le_add_left (Nat.min_le_left _ _) _) (hu _ hd)) hq
end

/-! ### sorted(xs) -/
def isTupP : PyData → Bool
  | .tuple _ => true
  | _ => false
def tupNe : PyData → Bool
  | .tuple (_ :: _) => true
  | _ => false
def notTN : PyData → Bool
  | .tuple _ => false
  | .none => false
  | _ => true
def sortE (ds : List PyData) : Bool := ds.all tupNe || ds.all notTN || match ds with
  | .tuple [] :: r => r.all isTupP
  | _ => false
open PySem.W PySem.SeqAt in
def alikeB (ds : List PyData) : Bool := ds.all fun d => ds.all fun d' => alike d d'
def sortOk (xs : List D) : Bool := xs.all (okN 60) && alikeB (xs.map pd) && sortE (xs.map pd)
def sortD (xs : List D) : List D := xs.mergeSort (PySem.W.dataLe false pd)
def rSortD (K : PySem.W.Frag) : List V → Hp → VK → Prop := fun vs H Q => ∃ (a : Addr) (bs : List (V × D)), vs = [V.ref a] ∧ SqL K H a (bs.map (·.1)) ∧ (∀ b ∈ bs, Dp K H b.1 (pd b.2) ∧ (pd b.2).depth ≤ 60) ∧ alikeB (bs.map fun b => pd b.2) = true ∧ sortE (bs.map fun b => pd b.2) = true ∧
  ∀ p, H p = none → Q (.ref p) (upd H p (.lst ((bs.mergeSort (PySem.W.dataLe false fun b => pd b.2)).map (·.1))))
section
open PySem.W PySem.SeqAt
theorem each_vals {β : Type} {f : β → V} : ∀ {bs : List β} {us : List Value}, Vals (bs.map f) us → EachIs (fun u b => RelV (f b) u) us bs
  | [], _, .nil => .nil
  | _ :: _, _, .cons r t => .cons r (each_vals t)
theorem vals_each {β : Type} {f : β → V} : ∀ {bs : List β} {us : List Value}, EachIs (fun u b => RelV (f b) u) us bs → Vals (bs.map f) us
  | _, _, .nil => .nil
  | _, _, .cons r t => .cons r (vals_each t)
theorem each_mem2 {α β : Type} {R : α → β → Prop} {S : α → β → Prop} : ∀ {as : List α} {bs : List β}, EachIs R as bs → (∀ a b, b ∈ bs → R a b → S a b) → EachIs S as bs
  | _, _, .nil, _ => .nil
  | _, _, .cons r t, h => .cons (h _ _ (List.mem_cons_self ..) r) (each_mem2 t fun a b hb => h a b (List.mem_cons_of_mem _ hb))
theorem alikeB_all {ds : List PyData} (h : alikeB ds = true) : AllAlike ds := fun d hd d' hd' => List.all_eq_true.mp (List.all_eq_true.mp h d hd) d' hd'
theorem sortE_at {P : Program} {w : World} {A : Around} {s : Shared} {vs : List Value} {ds : List PyData} (e : EachIs (fun v d => ∃ as, Reads s.heap v d as) vs ds) (hal : AllAlike ds) (hk : sortE ds = true) (hu : ∀ d ∈ ds, A.units + d.depth < cLine) : SortsAt P w A s (dataKind s.heap ds) vs := by
  unfold sortE at hk
  rcases Bool.or_eq_true_iff.mp hk with hk | hk
  · refine SortsAt.data e hal ?_ hu
    rcases Bool.or_eq_true_iff.mp hk with hk | hk
    · refine .inl fun d hd => ?_
      have q := List.all_eq_true.mp hk d hd
      unfold tupNe at q
      split at q
      · exact ⟨_, _, rfl⟩
      · cases q
    · refine .inr fun d hd => ?_
      have q := List.all_eq_true.mp hk d hd
      unfold notTN at q
      split at q
      · cases q
      · cases q
      · rename_i h1 h2
        exact ⟨h2, h1⟩
  · split at hk
    · rename_i r
      refine sortsAt_empty e hal (fun d hd => ?_) hu
      have q := List.all_eq_true.mp hk d hd
      unfold isTupP at q
      split at q
      · exact ⟨_, rfl⟩
      · cases q
    · cases hk
theorem call_sortD {X : Cx} (hu : X.A.units + 64 < cLine) : CallR X (.builtin "sorted") (rSortD X.K) := by
  intro pins s σ H xs us Q I r h
  obtain ⟨a, bs, rfl, hs, hd, hal, hk, q⟩ := h
  obtain ⟨its, rv, hl, hz⟩ := I.list hs
  rw [Vals.ref1 r]
  have e := each_vals rv
  have er : EachIs (fun u b => ∃ as, Reads (sortingHeap (copyHeap s.heap its) (s.heap.objs.size + 1) its) u (pd b.2) as) its bs := each_mem2 e fun u b hb ru => by
    obtain ⟨as, z⟩ := Dp.reads I (pd b.2) b.1 u (hd b hb).1 ru
    exact ⟨as, PyProof.Rows.Reads.keeps (fun _ _ => sorting_copy_old) z⟩
  have hL : its.length ≤ sizeLine := by rw [← rv.length]; exact hz
  refine sorted_vals hl.isList (sortE_at (s := { s with heap := sortingHeap (copyHeap s.heap its) (s.heap.objs.size + 1) its }) (each_map (R := fun v d => ∃ as, Reads (sortingHeap (copyHeap s.heap its) (s.heap.objs.size + 1) its) v d as) (fun b : V × D => pd b.2) er) (alikeB_all hal) hk fun d hm => ?_) hL ?_
  · obtain ⟨b, hb, rfl⟩ := List.mem_map.mp hm
    have := (hd b hb).2
    show X.A.units + 1 + 1 + (pd b.2).depth < cLine
    omega
  · have eo : EachIs (fun u b => RelV b.1 u) (sortVals (dataKind (sortingHeap (copyHeap s.heap its) (s.heap.objs.size + 1) its) (bs.map fun b => pd b.2)) false its its) (bs.mergeSort (dataLe false fun b => pd b.2)) := sortVals_data (enc := fun b : V × D => pd b.2) false e er (alikeB_all hal)
    generalize sortVals (dataKind (sortingHeap (copyHeap s.heap its) (s.heap.objs.size + 1) its) (bs.map fun b => pd b.2)) false its its = out at eo
    obtain ⟨ep, he'⟩ := PyProof.Rows.sortedAll_at s.heap its out.toArray
    have hlen : ((bs.mergeSort (dataLe false fun b => pd b.2)).map (·.1)).length ≤ sizeLine := by
      rw [List.length_map, List.length_mergeSort]
      rw [List.length_map] at hz
      exact hz
    exact ⟨.ref _, upd H (s.heap.objs.size + 1) (.lst ((bs.mergeSort (dataLe false fun b => pd b.2)).map (·.1))), I.laid (t' := s.toks) (fun _ _ => PyProof.Rows.sortedAll_old) (Nat.le_succ _) ⟨hlen, out, ep, vals_each eo, he'⟩, rfl, q _ (I.hok.fresh (Nat.le_succ _))⟩
end
def sortC (vs : List Val) : M Val := fun e => match vs with
  | [v] => (match vwD e v with
    | some a => if isTupD a = false ∧ isSeq a = true ∧ sortOk (itsD a) = true then .ok (.new (.lst (sortD (itsD a)))) e else .bad
    | none => .bad)
  | _ => .bad
theorem lst_rep {K : PySem.W.Frag} {H S : Hp} {d : D} {w : V} (sub : Same S H) (ht : isTupD d = false) (hs : isSeq d = true) (hv : VRep K H S d w) : ∃ a vs, w = .ref a ∧ SqL K H a vs ∧ RepL K S (itsD d) vs := by
  cases d with
  | lst xs => obtain ⟨a, vs, rfl, k1, k2⟩ := hv; exact ⟨a, vs, rfl, .of k1, k2⟩
  | rol xs => obtain ⟨a, vs, rfl, k1, k2⟩ := rep_rol.mp (show Rep K S (.rol xs) w from hv); exact ⟨a, vs, rfl, sqL_same sub k1, k2⟩
  | tup xs => cases ht
  | _ => cases hs
theorem zip_rep {K : PySem.W.Frag} {S : Hp} : ∀ {ds : List D} {ws : List V}, RepL K S ds ws → (ws.zip ds).map (·.1) = ws ∧ (ws.zip ds).map (·.2) = ds ∧ ∀ b ∈ ws.zip ds, Rep K S b.2 b.1
  | [], ws, h => by
    rw [repL_nil] at h
    subst h
    exact ⟨rfl, rfl, fun b hb => by cases hb⟩
  | d :: ds, ws, h => by
    obtain ⟨w, us, rfl, h1, h2⟩ := repL_cons.mp h
    obtain ⟨k1, k2, k3⟩ := zip_rep h2
    refine ⟨by rw [List.zip_cons_cons, List.map_cons, k1], by rw [List.zip_cons_cons, List.map_cons, k2], fun b hb => ?_⟩
    rw [List.zip_cons_cons] at hb
    rcases List.mem_cons.mp hb with rfl | hb
    · exact h1
    · exact k3 b hb
theorem rep_zip {K : PySem.W.Frag} {S : Hp} : ∀ {bs : List (V × D)}, (∀ b ∈ bs, Rep K S b.2 b.1) → RepL K S (bs.map (·.2)) (bs.map (·.1))
  | [], _ => .nil
  | b :: bs, h => .cons (h b (List.mem_cons_self ..)) (rep_zip fun c hc => h c (List.mem_cons_of_mem _ hc))
theorem sortCD {K : PySem.W.Frag} : CallD K sortC (rSortD K) := by
  intro W σ H0 S0 e0 H S e vs ws Q A E h g
  unfold sortC at g
  split at g
  · rename_i v
    obtain ⟨w, rfl, h1⟩ := vs1 h
    split at g
    · rename_i a q
      split at g
      · rename_i hc
        obtain ⟨c1, c2, c3⟩ := hc
        unfold sortOk at c3
        obtain ⟨c34, c5⟩ := Bool.and_eq_true_iff.mp c3
        obtain ⟨c3, c4⟩ := Bool.and_eq_true_iff.mp c34
        obtain ⟨p, us, rfl, k1', k2⟩ := lst_rep A.sub c1 c2 (h1.view A q)
        obtain ⟨z1, z2, z3⟩ := zip_rep k2
        refine ⟨p, us.zip (itsD a), rfl, by rw [z1]; exact k1', fun b hb => ?_, ?_, ?_, fun l hl => ?_⟩
        · have hb2 : b.2 ∈ itsD a := by rw [← z2]; exact List.mem_map.mpr ⟨b, hb, rfl⟩
          obtain ⟨d1, _, d3⟩ := dp_of 60 (List.all_eq_true.mp c3 _ hb2) ((z3 b hb).same A.sub)
          exact ⟨d1, d3⟩
        · rw [← z2, List.map_map] at c4
          exact c4
        · rw [← z2, List.map_map] at c5
          exact c5
        · have e1 : sortD (itsD a) = ((us.zip (itsD a)).mergeSort (PySem.W.dataLe false fun b => pd b.2)).map (·.2) := by
            have q := List.map_mergeSort (r := PySem.W.dataLe false fun b : V × D => pd b.2) (s := PySem.W.dataLe false pd) (f := fun b : V × D => b.2) (l := us.zip (itsD a)) fun a _ b _ => rfl
            rw [z2] at q
            exact q.symm
          refine fin_lst A E ?_ hl g
          rw [e1]
          exact rep_zip fun b hb => z3 b (List.mem_mergeSort.mp hb)
      · exact g.elim
    · exact g.elim
  · exact g.elim
end DL

set_option maxHeartbeats 4000000
/-! DL18: sorted(set(xs)) of tuples of numbers. -/
namespace DL
open PySem PySem.Spec PyProof.Rows L2
variable [TabsT]

theorem code_anti {B : Int} : ∀ {n m : List Int}, n.length = m.length → TS.Bd B n → TS.Bd B m → TS.code B n ≤ TS.code B m → TS.code B m ≤ TS.code B n → n = m
  | [], [], _, _, _, _, _ => rfl
  | [], _ :: _, h, _, _, _, _ => by simp at h
  | _ :: _, [], h, _, _, _, _ => by simp at h
  | d :: r, e :: q, h, h1, h2, a, b => by
    have hl : r.length = q.length := by simpa using h
    rcases Int.lt_trichotomy d e with c | c | c
    · have := TS.code_lt hl h1.tail h2.tail c
      omega
    · subst c
      have f : ∀ x y : List Int, x.length = y.length → TS.code B (d :: x) ≤ TS.code B (d :: y) → TS.code B x ≤ TS.code B y := fun x y hxy z => by
        have z : d * B ^ x.length + TS.code B x ≤ d * B ^ y.length + TS.code B y := z
        rw [hxy] at z
        omega
      rw [code_anti hl h1.tail h2.tail (f _ _ hl a) (f _ _ hl.symm b)]
    · have := TS.code_lt hl.symm h2.tail h1.tail c
      omega
def intsL : List D → Option (List Int)
  | [] => some []
  | .int i :: ds => (intsL ds).map (i :: ·)
  | _ :: _ => none
def intsD : D → Option (List Int)
  | .tup ds => intsL ds
  | _ => none
def intsDs : List D → Option (List (List Int))
  | [] => some []
  | d :: ds => match intsD d, intsDs ds with
    | some k, some ks => some (k :: ks)
    | _, _ => none
def tupI (ns : List Int) : D := .tup (ns.map .int)
def ddp : List (List Int) → List (List Int)
  | [] => []
  | k :: ks => if k ∈ ks then ddp ks else k :: ddp ks
theorem mem_ddp {k : List Int} : ∀ {ks : List (List Int)}, k ∈ ddp ks ↔ k ∈ ks
  | [] => Iff.rfl
  | q :: ks => by
    unfold ddp
    split
    · rename_i h
      rw [mem_ddp, List.mem_cons]
      exact ⟨.inr, fun z => z.elim (fun e => e ▸ h) id⟩
    · rw [List.mem_cons, List.mem_cons, mem_ddp]
theorem nodup_ddp : ∀ {ks : List (List Int)}, (ddp ks).Nodup
  | [] => .nil
  | q :: ks => by
    unfold ddp
    split
    · exact nodup_ddp
    · rename_i h
      exact List.nodup_cons.mpr ⟨fun z => h (mem_ddp.mp z), nodup_ddp⟩
def leI (a b : List Int) : Bool := decide (TS.code 1000 a ≤ TS.code 1000 b)
def ssL (ks : List (List Int)) : List (List Int) := (ddp ks).mergeSort leI
def keysOk (ks : List (List Int)) : Bool := ks.all fun k => decide (k.length = (ks.headD [0]).length) && decide (1 ≤ k.length) && k.all fun m => decide (0 ≤ m) && decide (m < 1000)
def setV2 (v : Val) : M Val := fun e => match vwD e v with
  | some a => if isTupD a = false ∧ isSeq a = true ∧ (itsD a).length < 64 then (match intsDs (itsD a) with
    | some ks => if keysOk ks = true then .ok (.new (.lst ((ssL ks).map tupI))) e else .bad
    | none => .bad) else .bad
  | none => .bad
theorem intsL_eq : ∀ {ds : List D} {k : List Int}, intsL ds = some k → ds = k.map .int
  | [], k, h => by cases h; rfl
  | d :: ds, k, h => by
    cases d with
    | int i =>
      have h : (intsL ds).map (i :: ·) = some k := h
      cases q : intsL ds with
      | none => rw [q] at h; cases h
      | some k' => rw [q] at h; cases h; rw [intsL_eq q]; rfl
    | _ => cases h
theorem intsD_eq {d : D} {k : List Int} (h : intsD d = some k) : d = tupI k := by
  cases d with
  | tup ds => unfold tupI; rw [← intsL_eq h]
  | _ => cases h
theorem intsDs_eq : ∀ {ds : List D} {ks : List (List Int)}, intsDs ds = some ks → ds = ks.map tupI
  | [], ks, h => by cases h; rfl
  | d :: ds, ks, h => by
    unfold intsDs at h
    split at h
    · rename_i k ks' h1 h2
      cases h
      rw [intsD_eq h1, intsDs_eq h2]
      rfl
    · cases h
section
variable {K : PySem.W.Frag} {S : Hp}
theorem tupI_rep {k : List Int} {w : V} (r : Rep K S (tupI k) w) : ∃ b, w = .ref b ∧ S b = some (.tup (k.map V.int)) := by
  obtain ⟨b, vs, rfl, h1, h2⟩ := rep_tupS.mp r
  have e : ∀ {k : List Int} {vs : List V}, RepL K S (k.map .int) vs → vs = k.map V.int := by
    intro k
    induction k with
    | nil => exact fun h => repL_nil.mp h
    | cons i k ih =>
      intro vs h
      obtain ⟨w, us, rfl, q1, q2⟩ := repL_cons.mp h
      rw [rep_int.mp q1, ih q2]
      rfl
  rw [e h2] at h1
  exact ⟨b, rfl, h1⟩
theorem tupI_mk {k : List Int} {b : Addr} (h : S b = some (.tup (k.map V.int))) : Rep K S (tupI k) (.ref b) := by
  refine rep_tupS.mpr ⟨b, _, rfl, h, ?_⟩
  clear h
  induction k with
  | nil => exact .nil
  | cons i k ih => exact .cons (rep_int.mpr rfl) ih
theorem keys_at : ∀ {ks : List (List Int)} {ws : List V}, RepL K S (ks.map tupI) ws → ∃ L : List (Addr × List Int), ws = L.map (fun p => V.ref p.1) ∧ ks = L.map (·.2) ∧ ∀ p ∈ L, S p.1 = some (.tup (p.2.map V.int))
  | [], ws, h => ⟨[], repL_nil.mp h, rfl, fun p hp => by cases hp⟩
  | k :: ks, ws, h => by
    obtain ⟨w, us, rfl, q1, q2⟩ := repL_cons.mp h
    obtain ⟨b, rfl, hb⟩ := tupI_rep q1
    obtain ⟨L, e1, e2, e3⟩ := keys_at q2
    refine ⟨(b, k) :: L, by rw [e1]; rfl, by rw [e2]; rfl, fun p hp => ?_⟩
    rcases List.mem_cons.mp hp with rfl | hp
    · exact hb
    · exact e3 p hp
end
theorem ssL_sorted (ks : List (List Int)) : (ssL ks).Pairwise fun a b => TS.code 1000 a ≤ TS.code 1000 b := by
  have h : ((ddp ks).mergeSort leI).Pairwise fun a b => leI a b = true := List.pairwise_mergeSort (le := leI) (fun a b c h1 h2 => decide_eq_true (Int.le_trans (of_decide_eq_true (p := TS.code 1000 a ≤ TS.code 1000 b) h1) (of_decide_eq_true (p := TS.code 1000 b ≤ TS.code 1000 c) h2))) (fun a b => by
    unfold leI
    simp only [Bool.or_eq_true, decide_eq_true_eq]
    exact Int.le_total _ _) (ddp ks)
  exact h.imp fun {a b} z => of_decide_eq_true (p := TS.code 1000 a ≤ TS.code 1000 b) z
section
variable {X : Cx} {W : WX} {p p2 pos pos2 : Pos} {a : Expr} {fa : M Val}
end
end DL

set_option maxHeartbeats 4000000
/-! DL19: list(zip(a, b, c)). -/
namespace DL
open PySem PySem.Spec PyProof.Rows L2
variable [TabsT]
open PySem.W

/-! ### next of a zip of three whose last tuple is kept -/
section
variable {P : Program} {w : World} {A : Around} {E : Value → Shared → Prop} {s : Shared} {z TI TO T i1 i2 i3 : Addr} {fp1 fp2 fp3 : List Addr} {n1 n2 n3 i : Nat} {P1 P2 P3 : Nat → Value → Prop} {St1 St2 St3 : Nat → Heap → Prop} {f : Bool} {oT : Obj}
theorem zip3_held {Q : Value → Shared → Prop} (S : ZipSep3 z TI TO i1 i2 i3 fp1 fp2 fp3) (D1 : Draws P w A.in1 i1 fp1 n1 P1 St1) (D2 : Draws P w A.in1 i2 fp2 n2 P2 St2) (D3 : Draws P w A.in1 i3 fp3 n3 P3 St3)
    (hz : IsZipHeld s.heap z TI TO T f) (hT : s.heap.get? T = some oT) (hTI : IsTupOf3 s.heap TI (.ref i1) (.ref i2) (.ref i3)) (st1 : St1 i s.heap) (st2 : St2 i s.heap) (st3 : St3 i s.heap) (l1 : i < n1) (l2 : i < n2) (l3 : i < n3)
    (hQ : ∀ x1 x2 x3 h' tk, P1 i x1 → P2 i x2 → P3 i x3 → IsZipHeld h' z TI TO T true → St1 (i + 1) h' → St2 (i + 1) h' → St3 (i + 1) h' → IsTupOf3 h' s.heap.objs.size x1 x2 x3 →
      (∀ c o, c ≠ z → c ≠ i1 → c ≠ i2 → c ≠ i3 → s.heap.get? c = some o → h'.get? c = some o) → Q (.ref s.heap.objs.size) { s with heap := h', toks := tk }) :
    wpAny (model P w) A.in1 (Builtin.«zip.__next__» ⟨[.ref z], []⟩) (fun fin s' => ∃ v, fin = .done (.ret v) ∧ Q v s') E s := by
  obtain ⟨hp, g, d, tk0, os⟩ := s
  show wpAny _ _ (field (.ref z) 2 >>= _) _ _ _
  refine wpAny_bind (wpAny_field hz rfl (x := .bool false) rfl ?_)
  show wpAny _ _ (field (.ref z) 3 >>= _) _ _ _
  refine wpAny_bind (wpAny_field hz rfl (x := .ref TI) rfl ?_)
  refine wpAny_bind (wpAny_seqItems hTI rfl ?_)
  show wpAny _ _ (Builtin.SmallTypes.ownedTupleIsFree (.ref z) >>= _) _ _ _
  refine wpAny_bind (wpAny_tupleHeld_zip hz hT fun g0 hz0 hs0 => ?_)
  simp only [Bool.false_eq_true, if_false]
  replace hs0 : Heap.SameBut z hp g0 := hs0
  refine wpAny_bind ?_
  rw [← Array.forIn_toList]
  simp only [List.forIn_cons, List.forIn_nil]
  refine wpAny_bind (wpAny_bind (wpAny_holding ?_))
  show wpAny _ _ (Builtin.SmallTypes.nextOf (.ref i1) >>= _) _ _ ⟨g0, g, d, tk0, os⟩
  refine wpAny_bind (D1.item i ⟨g0, g, d, tk0, os⟩ _ _ l1 (D1.over st1 hs0 S.zf1) fun x1 p1 tk1 hx1 sn1 hp1 => wpAny_pure (wpAny_pure ?_))
  replace hp1 : Heap.SameBut i1 g0 p1 := hp1
  refine wpAny_bind (wpAny_bind (wpAny_holding ?_))
  show wpAny _ _ (Builtin.SmallTypes.nextOf (.ref i2) >>= _) _ _ ⟨p1, g, d, tk1, os⟩
  refine wpAny_bind (D2.item i ⟨p1, g, d, tk1, os⟩ _ _ l2 (D2.over (D2.over st2 hs0 S.zf2) hp1 S.sep1_2) fun x2 p2 tk2 hx2 sn2 hp2 => wpAny_pure (wpAny_pure ?_))
  replace hp2 : Heap.SameBut i2 p1 p2 := hp2
  refine wpAny_bind (wpAny_bind (wpAny_holding ?_))
  show wpAny _ _ (Builtin.SmallTypes.nextOf (.ref i3) >>= _) _ _ ⟨p2, g, d, tk2, os⟩
  refine wpAny_bind (D3.item i ⟨p2, g, d, tk2, os⟩ _ _ l3 (D3.over (D3.over (D3.over st3 hs0 S.zf3) hp1 S.sep1_3) hp2 S.sep2_3) fun x3 p3 tk3 hx3 sn3 hp3 => wpAny_pure (wpAny_pure (wpAny_pure ?_)))
  replace hp3 : Heap.SameBut i3 p2 p3 := hp3
  show wpAny _ _ (newTuple [x1, x2, x3] >>= _) _ _ ⟨p3, g, d, tk3, os⟩
  refine wpAny_bind (wpAny_newTuple ?_)
  have hsz : p3.objs.size = hp.objs.size := by rw [hp3.1, hp2.1, hp1.1, hs0.1]
  have hzz : IsZipHeld p3 z TI TO T true := hp3.extBut _ _ S.zi3 (hp2.extBut _ _ S.zi2 (hp1.extBut _ _ S.zi1 hz0))
  have keep : ∀ c o, c ≠ z → c ≠ i1 → c ≠ i2 → c ≠ i3 → hp.get? c = some o → p3.get? c = some o := fun c o c0 c1 c2 c3 e => hp3.extBut _ _ c3 (hp2.extBut _ _ c2 (hp1.extBut _ _ c1 (hs0.extBut _ _ c0 e)))
  have j1 : St1 (i + 1) p3 := D1.over (D1.over sn1 hp2 S.sep2_1) hp3 S.sep3_1
  have j2 : St2 (i + 1) p3 := D2.over sn2 hp3 S.sep3_2
  have up : ∀ c o, p3.get? c = some o → (p3.push { cls := .type "tuple", data := .seq #[x1, x2, x3] }).get? c = some o := fun c o e => Heap.get?_push_of_some _ e
  refine wpAny_pure ⟨_, rfl, ?_⟩
  show Q (.ref p3.objs.size) _
  have ht : IsTupOf3 (p3.push { cls := .type "tuple", data := .seq #[x1, x2, x3] }) p3.objs.size x1 x2 x3 := Heap.get?_push_size _ rfl
  rw [hsz] at ht ⊢
  exact hQ x1 x2 x3 _ tk3 hx1 hx2 hx3 (up _ _ hzz) (D1.frame _ _ _ j1 fun b _ o e => up b o e) (D2.frame _ _ _ j2 fun b _ o e => up b o e) (D3.frame _ _ _ sn3 fun b _ o e => up b o e) ht fun c o c0 c1 c2 c3 e => up c o (keep c o c0 c1 c2 c3 e)
theorem zip3_heldEnd {Q : Fin → Shared → Prop} (S : ZipSep3 z TI TO i1 i2 i3 fp1 fp2 fp3) (D1 : Draws P w A.in1 i1 fp1 n1 P1 St1) (D2 : Draws P w A.in1 i2 fp2 n2 P2 St2) (D3 : Draws P w A.in1 i3 fp3 n3 P3 St3)
    (hz : IsZipHeld s.heap z TI TO T f) (hT : s.heap.get? T = some oT) (hTI : IsTupOf3 s.heap TI (.ref i1) (.ref i2) (.ref i3)) (st1 : St1 i s.heap) (st2 : St2 i s.heap) (st3 : St3 i s.heap) (l1 : i ≤ n1) (l2 : i ≤ n2) (l3 : i ≤ n3) (hend : i = n1 ∨ i = n2 ∨ i = n3)
    (hE : ∀ h' tk e, (∀ c o, c ≠ z → c ≠ i1 → c ≠ i2 → c ≠ i3 → s.heap.get? c = some o → h'.get? c = some o) → (∃ o, h'.get? e = some o ∧ o.cls = .type "StopIteration") → E (.ref e) { s with heap := h', toks := tk }) :
    wpAny (model P w) A.in1 (Builtin.«zip.__next__» ⟨[.ref z], []⟩) Q E s := by
  obtain ⟨hp, g, d, tk0, os⟩ := s
  show wpAny _ _ (field (.ref z) 2 >>= _) _ _ _
  refine wpAny_bind (wpAny_field hz rfl (x := .bool false) rfl ?_)
  show wpAny _ _ (field (.ref z) 3 >>= _) _ _ _
  refine wpAny_bind (wpAny_field hz rfl (x := .ref TI) rfl ?_)
  refine wpAny_bind (wpAny_seqItems hTI rfl ?_)
  show wpAny _ _ (Builtin.SmallTypes.ownedTupleIsFree (.ref z) >>= _) _ _ _
  refine wpAny_bind (wpAny_tupleHeld_zip hz hT fun g0 hz0 hs0 => ?_)
  simp only [Bool.false_eq_true, if_false]
  replace hs0 : Heap.SameBut z hp g0 := hs0
  refine wpAny_bind ?_
  rw [← Array.forIn_toList]
  simp only [List.forIn_cons, List.forIn_nil]
  refine wpAny_bind (wpAny_bind (wpAny_holding ?_))
  show wpAny _ _ (Builtin.SmallTypes.nextOf (.ref i1) >>= _) _ _ ⟨g0, g, d, tk0, os⟩
  by_cases q1 : i < n1
  · refine wpAny_bind (D1.item i ⟨g0, g, d, tk0, os⟩ _ _ q1 (D1.over st1 hs0 S.zf1) fun x1 p1 tk1 hx1 sn1 hp1 => wpAny_pure (wpAny_pure ?_))
    replace hp1 : Heap.SameBut i1 g0 p1 := hp1
    refine wpAny_bind (wpAny_bind (wpAny_holding ?_))
    show wpAny _ _ (Builtin.SmallTypes.nextOf (.ref i2) >>= _) _ _ ⟨p1, g, d, tk1, os⟩
    by_cases q2 : i < n2
    · refine wpAny_bind (D2.item i ⟨p1, g, d, tk1, os⟩ _ _ q2 (D2.over (D2.over st2 hs0 S.zf2) hp1 S.sep1_2) fun x2 p2 tk2 hx2 sn2 hp2 => wpAny_pure (wpAny_pure ?_))
      replace hp2 : Heap.SameBut i2 p1 p2 := hp2
      refine wpAny_bind (wpAny_bind (wpAny_holding ?_))
      show wpAny _ _ (Builtin.SmallTypes.nextOf (.ref i3) >>= _) _ _ ⟨p2, g, d, tk2, os⟩
      have e3 : i = n3 := by omega
      subst e3
      refine wpAny_bind (D3.done ⟨p2, g, d, tk2, os⟩ _ _ (D3.over (D3.over (D3.over st3 hs0 S.zf3) hp1 S.sep1_3) hp2 S.sep2_3) fun q e hq he => ?_)
      exact hE q tk2 e (fun c o c0 c1 c2 c3 k => hq _ _ c3 (hp2.extBut _ _ c2 (hp1.extBut _ _ c1 (hs0.extBut _ _ c0 k)))) he
    · have e2 : i = n2 := by omega
      subst e2
      refine wpAny_bind (D2.done ⟨p1, g, d, tk1, os⟩ _ _ (D2.over (D2.over st2 hs0 S.zf2) hp1 S.sep1_2) fun q e hq he => ?_)
      exact hE q tk1 e (fun c o c0 c1 c2 c3 k => hq _ _ c2 (hp1.extBut _ _ c1 (hs0.extBut _ _ c0 k))) he
  · have e1 : i = n1 := by omega
    subst e1
    refine wpAny_bind (D1.done ⟨g0, g, d, tk0, os⟩ _ _ (D1.over st1 hs0 S.zf1) fun q e hq he => ?_)
    exact hE q tk0 e (fun c o c0 c1 c2 c3 k => hq _ _ c1 (hs0.extBut _ _ c0 k)) he
end

/-! ### a zip of three that a list takes in -/
def ZS (z TI TO i1 i2 i3 S : Addr) (St1 St2 St3 : Nat → Heap → Prop) (i : Nat) (h : Heap) : Prop :=
  ((IsZip h z TI TO .none ∧ ∃ a1 a2 a3, IsTupOf3 h TO a1 a2 a3) ∨ ∃ T f oT, IsZipHeld h z TI TO T f ∧ h.get? T = some oT ∧ T ≠ z ∧ T ≠ i1 ∧ T ≠ i2 ∧ T ≠ i3 ∧ T ≠ S) ∧ IsTupOf3 h TI (.ref i1) (.ref i2) (.ref i3) ∧ St1 i h ∧ St2 i h ∧ St3 i h
section
variable {P : Program} {w : World} {A : Around} {E : Value → Shared → Prop} {s : Shared} {z TI TO i1 i2 i3 S : Addr} {fp1 fp2 fp3 : List Addr} {n1 n2 n3 i : Nat} {P1 P2 P3 : Nat → Value → Prop} {St1 St2 St3 : Nat → Heap → Prop}
theorem zs_item {Q : Option Value → Shared → Prop} (Z : ZipSep3 z TI TO i1 i2 i3 fp1 fp2 fp3) (D1 : Draws P w A.in1 i1 fp1 n1 P1 St1) (D2 : Draws P w A.in1 i2 fp2 n2 P2 St2) (D3 : Draws P w A.in1 i3 fp3 n3 P3 St3) (st : ZS z TI TO i1 i2 i3 S St1 St2 St3 i s.heap)
    (l1 : i < n1) (l2 : i < n2) (l3 : i < n3) (hS : S < s.heap.objs.size)
    (hQ : ∀ x1 x2 x3 h' tk, P1 i x1 → P2 i x2 → P3 i x3 → ZS z TI TO i1 i2 i3 S St1 St2 St3 (i + 1) h' → IsTupOf3 h' s.heap.objs.size x1 x2 x3 → (∀ c o, c ≠ z → c ≠ TO → c ≠ i1 → c ≠ i2 → c ≠ i3 → s.heap.get? c = some o → h'.get? c = some o) →
      Q (some (.ref s.heap.objs.size)) { s with heap := h', toks := tk }) : wpAny (model P w) A (pyNext (.ref z)) Q E s := by
  obtain ⟨hz, hTI, st1, st2, st3⟩ := st
  have ne : ∀ {c o}, s.heap.get? c = some o → s.heap.objs.size ≠ c := fun e => Nat.ne_of_gt (Heap.lt_size e)
  have e1 : s.heap.objs.size ≠ i1 := by obtain ⟨_, e⟩ := D1.live _ _ st1; exact ne e
  have e2 : s.heap.objs.size ≠ i2 := by obtain ⟨_, e⟩ := D2.live _ _ st2; exact ne e
  have e3 : s.heap.objs.size ≠ i3 := by obtain ⟨_, e⟩ := D3.live _ _ st3; exact ne e
  have eS : s.heap.objs.size ≠ S := Nat.ne_of_gt hS
  rcases hz with ⟨hz, a1, a2, a3, hTO⟩ | ⟨T, f, oT, hz, hT, t0, t1, t2, t3, t4⟩
  · have ez := ne hz
    refine wpAny_pyNext_zipD3_item Z D1 D2 D3 hz hTI hTO st1 st2 st3 l1 l2 l3 fun x1 x2 x3 h' tk y1 y2 y3 b1 b2 d1 d2 d3 b5 b6 hk => ?_
    exact hQ x1 x2 x3 h' tk y1 y2 y3 ⟨.inr ⟨_, false, _, b1, b5, ez, e1, e2, e3, eS⟩, hk _ _ Z.TIz Z.TITO Z.TIi1 Z.TIi2 Z.TIi3 hTI, d1, d2, d3⟩ b5 hk
  · have ez := ne hz
    have hTy : s.TypeIs (.ref z) "zip" := ⟨_, hz, rfl⟩
    unfold pyNext
    refine wpAny_bind (wpAny_attempt (wpAny_callSpecial?_slot (name := Str.ofString "__next__") hTy PySem.F.slot_zip_next (wpAny_call_entry PySem.F.slot_zip_next hTy PySem.F.entry_zip_next (zip3_held Z D1 D2 D3 hz hT hTI st1 st2 st3 l1 l2 l3 fun x1 x2 x3 h' tk y1 y2 y3 b1 d1 d2 d3 b5 hk => ?_) (PySem.F.args_zip_next_1 _))))
    exact wpAny_pure (hQ x1 x2 x3 h' tk y1 y2 y3 ⟨.inr ⟨T, true, oT, b1, hk T _ t0 t1 t2 t3 hT, t0, t1, t2, t3, t4⟩, hk _ _ Z.TIz Z.TIi1 Z.TIi2 Z.TIi3 hTI, d1, d2, d3⟩ b5 fun c o c0 _ c1 c2 c3 e => hk c o c0 c1 c2 c3 e)
theorem zs_done {Q : Option Value → Shared → Prop} (Z : ZipSep3 z TI TO i1 i2 i3 fp1 fp2 fp3) (D1 : Draws P w A.in1 i1 fp1 n1 P1 St1) (D2 : Draws P w A.in1 i2 fp2 n2 P2 St2) (D3 : Draws P w A.in1 i3 fp3 n3 P3 St3) (st : ZS z TI TO i1 i2 i3 S St1 St2 St3 i s.heap)
    (l1 : i ≤ n1) (l2 : i ≤ n2) (l3 : i ≤ n3) (hend : i = n1 ∨ i = n2 ∨ i = n3)
    (hQ : ∀ h' tk, (∀ c o, c ≠ z → c ≠ TO → c ≠ i1 → c ≠ i2 → c ≠ i3 → s.heap.get? c = some o → h'.get? c = some o) → Q none { s with heap := h', toks := tk }) : wpAny (model P w) A (pyNext (.ref z)) Q E s := by
  obtain ⟨hz, hTI, st1, st2, st3⟩ := st
  rcases hz with ⟨hz, a1, a2, a3, hTO⟩ | ⟨T, f, oT, hz, hT, t0, t1, t2, t3, t4⟩
  · exact wpAny_pyNext_zipD3_end Z D1 D2 D3 hz hTI hTO st1 st2 st3 l1 l2 l3 hend hQ
  · have hTy : s.TypeIs (.ref z) "zip" := ⟨_, hz, rfl⟩
    unfold pyNext
    refine wpAny_bind (wpAny_attempt (wpAny_callSpecial?_slot (name := Str.ofString "__next__") hTy PySem.F.slot_zip_next (wpAny_call_entry PySem.F.slot_zip_next hTy PySem.F.entry_zip_next (zip3_heldEnd Z D1 D2 D3 hz hT hTI st1 st2 st3 l1 l2 l3 hend fun h' tk e hk he => ?_) (PySem.F.args_zip_next_1 _))))
    obtain ⟨o, ho, hc⟩ := he
    refine wpAny_bind (wpAny_isInstance (T := "StopIteration") (b := true) ⟨o, ho, hc⟩ isSubtype_stop ?_)
    first
      | exact wpAny_pure (hQ h' tk fun c o c0 _ c1 c2 c3 e => hk c o c0 c1 c2 c3 e)
      | exact wpAny_bind (wpAny_pure (wpAny_pure (hQ h' tk fun c o c0 _ c1 c2 c3 e => hk c o c0 c1 c2 c3 e)))
      | (simp only [if_true]; exact wpAny_pure (hQ h' tk fun c o c0 _ c1 c2 c3 e => hk c o c0 c1 c2 c3 e))
theorem zs_keep {h h' : Heap} (D1 : Draws P w A i1 fp1 n1 P1 St1) (D2 : Draws P w A i2 fp2 n2 P2 St2) (D3 : Draws P w A i3 fp3 n3 P3 St3) (st : ZS z TI TO i1 i2 i3 S St1 St2 St3 i h) (sz : S ≠ z) (sTI : S ≠ TI) (sTO : S ≠ TO) (f1 : S ∉ fp1) (f2 : S ∉ fp2) (f3 : S ∉ fp3)
    (k : ∀ b o, b ≠ S → h.get? b = some o → h'.get? b = some o) : ZS z TI TO i1 i2 i3 S St1 St2 St3 i h' := by
  obtain ⟨hz, hTI, st1, st2, st3⟩ := st
  refine ⟨?_, k _ _ sTI.symm hTI, D1.frame _ _ _ st1 fun b hb o e => k b o (fun q => f1 (q ▸ hb)) e, D2.frame _ _ _ st2 fun b hb o e => k b o (fun q => f2 (q ▸ hb)) e, D3.frame _ _ _ st3 fun b hb o e => k b o (fun q => f3 (q ▸ hb)) e⟩
  rcases hz with ⟨hz, a1, a2, a3, hTO⟩ | ⟨T, f, oT, hz, hT, t0, t1, t2, t3, t4⟩
  · exact .inl ⟨k _ _ sz.symm hz, a1, a2, a3, k _ _ sTO.symm hTO⟩
  · exact .inr ⟨T, f, oT, k _ _ sz.symm hz, k _ _ t4 hT, t0, t1, t2, t3, t4⟩
/-- the tuples made so far -/
structure ZG (P1 P2 P3 : Nat → Value → Prop) (lo : Addr) (h : Heap) (as : List Addr) : Prop where
  rise : as.Pairwise (· < ·)
  above : ∀ a ∈ as, lo < a
  tups : ∀ (j : Nat) (a : Addr), as[j]? = some a → ∃ x1 x2 x3, P1 j x1 ∧ P2 j x2 ∧ P3 j x3 ∧ IsTupOf3 h a x1 x2 x3
theorem ZG.there {lo : Addr} {h : Heap} {as : List Addr} (g : ZG P1 P2 P3 lo h as) {a : Addr} (ha : a ∈ as) : a < h.objs.size := by
  obtain ⟨j, hj⟩ := List.mem_iff_getElem?.mp ha
  obtain ⟨_, _, _, _, _, _, e⟩ := g.tups j a hj
  exact Heap.lt_size e
theorem ZG.keep {lo : Addr} {h h' : Heap} {as : List Addr} (g : ZG P1 P2 P3 lo h as) (k : ∀ b o, lo < b → h.get? b = some o → h'.get? b = some o) : ZG P1 P2 P3 lo h' as :=
  ⟨g.rise, g.above, fun j a hj => let ⟨x1, x2, x3, q1, q2, q3, q⟩ := g.tups j a hj; ⟨x1, x2, x3, q1, q2, q3, k a _ (g.above a (List.mem_of_getElem? hj)) q⟩⟩
theorem zl_loop {R : Result → Shared → Prop} {N : Nat} (Z : ZipSep3 z TI TO i1 i2 i3 fp1 fp2 fp3) (D1 : Draws P w A.in1.in1 i1 fp1 n1 P1 St1) (D2 : Draws P w A.in1.in1 i2 fp2 n2 P2 St2) (D3 : Draws P w A.in1.in1 i3 fp3 n3 P3 St3) (hN : N = min (min n1 n2) n3) (hNz : N ≤ sizeLine)
    (sz : z < S) (sTI : TI < S) (sTO : TO < S) (f1 : ∀ b ∈ fp1, b < S) (f2 : ∀ b ∈ fp2, b < S) (f3 : ∀ b ∈ fp3, b < S) (res : Value) {h1 : Heap}
    (hR : ∀ h' tk acc c as, (∀ b o, b ≠ S → b ≠ z → b ≠ TO → b ≠ i1 → b ≠ i2 → b ≠ i3 → h1.get? b = some o → h'.get? b = some o) → h'.get? S = some { cls := .type "list", dict := none, data := .seq acc c, slots := #[] } → as.length = N → ZG P1 P2 P3 S h' as → acc.toList = as.map Value.ref →
      R (.ok (.ret res)) { s with heap := h', toks := tk }) :
    ∀ (k i : Nat) (h : Heap) (tk c : Nat) (acc : Array Value) (as : List Addr), N - i = k → i ≤ N → ZS z TI TO i1 i2 i3 S St1 St2 St3 i h → (∀ b o, b ≠ S → b ≠ z → b ≠ TO → b ≠ i1 → b ≠ i2 → b ≠ i3 → h1.get? b = some o → h.get? b = some o) →
      h.get? S = some { cls := .type "list", dict := none, data := .seq acc c, slots := #[] } → acc.toList = as.map Value.ref → as.length = i → ZG P1 P2 P3 S h as →
      codeAny (model P w) A (.builtin "list.extend.loop" ⟨[.ref S, .ref z, res], []⟩) R { s with heap := h, toks := tk } := by
  have m1 : i1 < S := f1 _ Z.mem1
  have m2 : i2 < S := f2 _ Z.mem2
  have m3 : i3 < S := f3 _ Z.mem3
  intro k
  induction k with
  | zero =>
    intro i h tk c acc as hk hi hst keep hS hacc hal hG
    refine codeAny_builtin PySem.F.entry_extend_loop ?_
    rw [Around.under_plainId PySem.F.plain_extend_loop _]
    show wpAny _ A.in1 (pyNext (.ref z) >>= _) _ _ _
    refine wpAny_bind (zs_done (s := { s with heap := h, toks := tk }) (A := A.in1) Z D1 D2 D3 hst (by omega) (by omega) (by omega) (by omega) fun h' tk' he => ?_)
    refine wpAny_pure (hR h' tk' acc c as (fun b o q0 q1 q2 q3 q4 q5 e => he b o q1 q2 q3 q4 q5 (keep b o q0 q1 q2 q3 q4 q5 e)) (he S _ (Nat.ne_of_gt sz) (Nat.ne_of_gt sTO) (Nat.ne_of_gt m1) (Nat.ne_of_gt m2) (Nat.ne_of_gt m3) hS) (by omega) (hG.keep fun b o hb e => ?_) hacc)
    exact he b o (Nat.ne_of_gt (Nat.lt_trans sz hb)) (Nat.ne_of_gt (Nat.lt_trans sTO hb)) (Nat.ne_of_gt (Nat.lt_trans m1 hb)) (Nat.ne_of_gt (Nat.lt_trans m2 hb)) (Nat.ne_of_gt (Nat.lt_trans m3 hb)) e
  | succ k ih =>
    intro i h tk c acc as hk hi hst keep hS hacc hal hG
    have hsz : acc.size = i := by rw [← Array.length_toList, hacc, List.length_map, hal]
    have hSl : S < h.objs.size := Heap.lt_size hS
    refine codeAny_builtin PySem.F.entry_extend_loop ?_
    rw [Around.under_plainId PySem.F.plain_extend_loop _]
    show wpAny _ A.in1 (pyNext (.ref z) >>= _) _ _ _
    refine wpAny_bind (zs_item (s := { s with heap := h, toks := tk }) (A := A.in1) Z D1 D2 D3 hst (by omega) (by omega) (by omega) hSl fun x1 x2 x3 h' tk' y1 y2 y3 hst' ht hkp => ?_)
    dsimp only at ht hkp ⊢
    have hS' := hkp S _ (Nat.ne_of_gt sz) (Nat.ne_of_gt sTO) (Nat.ne_of_gt m1) (Nat.ne_of_gt m2) (Nat.ne_of_gt m3) hS
    have up : ∀ b o, b ≠ S → h'.get? b = some o → (h'.update S (Obj.mapSeq (·.push (Value.ref h.objs.size)))).get? b = some o := fun b o hb e => (Heap.get?_update_other _ _ (Ne.symm hb)).trans e
    show wpAny _ A.in1 (updateSeq S (·.push (Value.ref h.objs.size)) >>= _) _ _ _
    refine wpAny_bind ?_
    refine wpAny_updateSeq hS' rfl (wpAny_pure ⟨plainId_quiet PySem.F.plain_extend_loop _, ih (i + 1) _ tk' _ (acc.push (Value.ref h.objs.size)) (as ++ [h.objs.size]) (by omega) (by omega)
      (zs_keep D1 D2 D3 hst' (Nat.ne_of_gt sz) (Nat.ne_of_gt sTI) (Nat.ne_of_gt sTO) (fun q => Nat.lt_irrefl _ (f1 S q)) (fun q => Nat.lt_irrefl _ (f2 S q)) (fun q => Nat.lt_irrefl _ (f3 S q)) up)
      (fun b o q0 q1 q2 q3 q4 q5 e => up b o q0 (hkp b o q1 q2 q3 q4 q5 (keep b o q0 q1 q2 q3 q4 q5 e))) (Heap.get?_update_self _ hS' rfl) (by rw [Array.toList_push, hacc, List.map_append]; rfl) (by rw [List.length_append, hal]; rfl) ⟨?_, ?_, ?_⟩⟩) (by rw [hsz]; omega) (by show (acc.push (Value.ref h.objs.size)).size ≤ sizeLine + 1; rw [Array.size_push, hsz]; omega)
    · refine List.pairwise_append.mpr ⟨hG.rise, List.pairwise_singleton _ _, fun a ha b hb => ?_⟩
      rw [List.mem_singleton.mp hb]
      exact hG.there ha
    · intro a ha
      rcases List.mem_append.mp ha with ha | ha
      · exact hG.above a ha
      · rw [List.mem_singleton.mp ha]; exact hSl
    · intro j b hj
      rcases Nat.lt_trichotomy j as.length with q | q | q
      · rw [List.getElem?_append_left q] at hj
        obtain ⟨u1, u2, u3, e1, e2, e3, e4⟩ := hG.tups j b hj
        have hb := hG.above b (List.mem_of_getElem? hj)
        exact ⟨u1, u2, u3, e1, e2, e3, up b _ (Nat.ne_of_gt hb) (hkp b _ (Nat.ne_of_gt (Nat.lt_trans sz hb)) (Nat.ne_of_gt (Nat.lt_trans sTO hb)) (Nat.ne_of_gt (Nat.lt_trans m1 hb)) (Nat.ne_of_gt (Nat.lt_trans m2 hb)) (Nat.ne_of_gt (Nat.lt_trans m3 hb)) e4)⟩
      · subst q
        have hb : h.objs.size = b := by simpa using hj
        subst hb
        exact ⟨x1, x2, x3, by rw [hal]; exact y1, by rw [hal]; exact y2, by rw [hal]; exact y3, up _ _ (Nat.ne_of_gt hSl) ht⟩
      · have none' : (as ++ [h.objs.size])[j]? = none := List.getElem?_eq_none (by rw [List.length_append, List.length_singleton]; omega)
        rw [none'] at hj; cases hj
end

theorem zip_no_len : typeLookup (.type "zip") "__len__" = pure none := am_miss_of_fast (by decide +kernel)
theorem zip_no_hint : typeLookup (.type "zip") "__length_hint__" = pure none := am_miss_of_fast (by decide +kernel)
section
variable {P : Program} {w : World} {A : Around} {E : Value → Shared → Prop} {s : Shared} {z TI TO i1 i2 i3 : Addr} {fp1 fp2 fp3 : List Addr} {n1 n2 n3 : Nat} {P1 P2 P3 : Nat → Value → Prop} {St1 St2 St3 : Nat → Heap → Prop}
theorem call_listZip3 {Q : Value → Shared → Prop} {N : Nat} {a1 a2 a3 : Value} (Z : ZipSep3 z TI TO i1 i2 i3 fp1 fp2 fp3) (D1 : Draws P w A.in1.in1.in1 i1 fp1 n1 P1 St1) (D2 : Draws P w A.in1.in1.in1 i2 fp2 n2 P2 St2) (D3 : Draws P w A.in1.in1.in1 i3 fp3 n3 P3 St3) (hN : N = min (min n1 n2) n3) (hNz : N ≤ sizeLine)
    (hz : IsZip s.heap z TI TO .none) (hTO : IsTupOf3 s.heap TO a1 a2 a3) (hTI : IsTupOf3 s.heap TI (.ref i1) (.ref i2) (.ref i3)) (st1 : St1 0 s.heap) (st2 : St2 0 s.heap) (st3 : St3 0 s.heap) (f1 : ∀ b ∈ fp1, b < s.heap.objs.size) (f2 : ∀ b ∈ fp2, b < s.heap.objs.size) (f3 : ∀ b ∈ fp3, b < s.heap.objs.size)
    (hQ : ∀ h' tk acc c as, (∀ b o, b ≠ z → b ≠ TO → b ≠ i1 → b ≠ i2 → b ≠ i3 → s.heap.get? b = some o → h'.get? b = some o) → h'.get? s.heap.objs.size = some { cls := .type "list", dict := none, data := .seq acc c, slots := #[] } → as.length = N →
      ZG P1 P2 P3 s.heap.objs.size h' as → acc.toList = as.map Value.ref → Q (.ref s.heap.objs.size) { s with heap := h', toks := tk }) : wpAny (model P w) A (call (.type "list") [.ref z]) Q E s := by
  have lz : z < s.heap.objs.size := Heap.lt_size hz
  have lTO : TO < s.heap.objs.size := Heap.lt_size hTO
  have lTI : TI < s.heap.objs.size := Heap.lt_size hTI
  refine callType_codes (Q₁ := fun obj t => obj = .ref s.heap.objs.size ∧ t = { s with heap := s.heap.push { cls := .type "list", data := .seq #[] } }) PySem.F.called_list (PySem.F.typeCall_list_1 _) PySem.F.entry_list_init
    (code_list_new _ ⟨rfl, rfl⟩) fun obj t h₁ => ?_
  obtain ⟨rfl, rfl⟩ := h₁
  have hS : (s.heap.push { cls := .type "list", data := .seq #[] }).get? s.heap.objs.size = some { cls := .type "list", data := .seq #[] } := Heap.get?_push_size _ rfl
  refine ⟨⟨_, hS, rfl⟩, PySem.F.args_list_init_2 _ _, ?_⟩
  show wpAny _ A.in1.in1 (do let old ← Builtin.List.listItems (.ref s.heap.objs.size); Builtin.List.listUpdate (.ref s.heap.objs.size) (fun _ => #[]); letGo old.toList.reverse; Builtin.List.listExtendWith (.ref s.heap.objs.size) (.ref z) .none) _ _ _
  refine wpAny_bind ?_
  unfold Builtin.List.listItems
  refine wpAny_bind (wpAny_seqItems hS rfl (wpAny_pure ?_))
  show wpAny _ A.in1.in1 (updateSeq s.heap.objs.size (fun _ => #[]) >>= fun _ => letGo (#[] : Array Value).toList.reverse >>= fun _ => Builtin.List.listExtendWith (.ref s.heap.objs.size) (.ref z) .none) _ _ _
  refine wpAny_bind (wpAny_updateSeq hS rfl ?_)
  have hS2 := Heap.get?_update_self (Obj.mapSeq (fun _ => (#[] : Array Value))) hS rfl
  refine wpAny_bind (wpAny_letGo ?_)
  unfold Builtin.List.listExtendWith
  have up : ∀ (h : Heap) (f : Obj → Obj), (∀ b o, s.heap.get? b = some o → h.get? b = some o) → ∀ b o, s.heap.get? b = some o → (h.update s.heap.objs.size f).get? b = some o := fun h f q b o e =>
    (Heap.get?_update_other _ _ (Ne.symm (Nat.ne_of_lt (Heap.lt_size e)))).trans (q b o e)
  have k1 : ∀ b o, s.heap.get? b = some o → (s.heap.push { cls := .type "list", data := .seq #[] }).get? b = some o := fun b o e => Heap.get?_push_of_some _ e
  have k2 := up _ (Obj.mapSeq (fun _ => (#[] : Array Value))) k1
  have ty : ∀ {h : Heap} {tk : Nat}, (∀ b o, s.heap.get? b = some o → h.get? b = some o) → Shared.TypeIs { s with heap := h, toks := tk } (.ref z) "zip" := fun {h tk} q => ⟨_, q z _ hz, rfl⟩
  refine wpAny_bind (wpAny_typeOf (T := "zip") (ty k2) ?_)
  have h1 : Builtin.List.listSameRef (.ref s.heap.objs.size) (.ref z) = false := by simp [Builtin.List.listSameRef, Nat.ne_of_gt lz]
  have h2 : (Value.type "zip" == Value.type "list") = false := by decide
  have h3 : (Value.type "zip" == Value.type "tuple") = false := by decide
  simp only [h1, h2, h3, Bool.or_false, Bool.false_eq_true, if_false]
  refine wpAny_bind (wpAny_pyIter_zip (k2 z _ hz) ?_)
  refine wpAny_bind (wpAny_holding ?_)
  unfold Builtin.List.listLengthHint
  refine wpAny_bind (wpAny_specialOf (ty k2) zip_no_len ?_)
  show wpAny _ A.in1.in1 (specialOf (Value.ref z) (Str.ofString "__length_hint__") >>= _) _ _ _
  refine wpAny_bind (wpAny_specialOf (ty k2) zip_no_hint ?_)
  refine wpAny_pure ?_
  show wpAny _ A.in1.in1 (rule "list.extend.makes-room" >>= fun _ => Builtin.List.listTouch (.ref s.heap.objs.size) >>= fun _ =>
    again (.builtin "list.extend.loop" ⟨[.ref s.heap.objs.size, .ref z, .none], []⟩)) _ _ _
  refine wpAny_bind (wpAny_rule ?_)
  refine wpAny_bind ?_
  show wpAny _ A.in1.in1 (updateSeq s.heap.objs.size (·.push .none) >>= fun _ => updateSeq s.heap.objs.size (·.pop)) _ _ _
  refine wpAny_bind (wpAny_updateSeq hS2 rfl ?_)
  have hS3 := Heap.get?_update_self (Obj.mapSeq (·.push Value.none)) hS2 rfl
  refine wpAny_updateSeq (hz := by seq_fits) hS3 rfl ?_
  have hS4 := Heap.get?_update_self (Obj.mapSeq (·.pop)) hS3 rfl
  have k4 := up _ (Obj.mapSeq (·.pop)) (up _ (Obj.mapSeq (·.push Value.none)) k2)
  refine wpAny_pure ⟨plainId_quiet PySem.F.plain_extend_loop _, ?_⟩
  refine zl_loop (A := A.in1) (s := s) (h1 := s.heap) Z D1 D2 D3 hN hNz lz lTI lTO f1 f2 f3 .none (fun h' tk acc c as kk hS' hl hG hacc => ⟨rfl, hQ h' tk acc c as (fun b o q1 q2 q3 q4 q5 e => kk b o (Nat.ne_of_lt (Heap.lt_size e)) q1 q2 q3 q4 q5 e) hS' hl hG hacc⟩)
    N 0 _ _ _ #[] [] (Nat.sub_zero _) (Nat.zero_le _) ⟨.inl ⟨k4 z _ hz, a1, a2, a3, k4 _ _ hTO⟩, k4 _ _ hTI, D1.frame _ _ _ st1 fun b _ o e => k4 b o e, D2.frame _ _ _ st2 fun b _ o e => k4 b o e, D3.frame _ _ _ st3 fun b _ o e => k4 b o e⟩
    (fun b o _ _ _ _ _ _ e => k4 b o e) hS4 rfl rfl ⟨List.Pairwise.nil, (fun _ ha => nomatch ha), (fun j a hj => by simp at hj)⟩
end
end DL

set_option maxHeartbeats 4000000
/-! DL20: list(zip(a, b, c)) as an expression. -/
namespace DL
open PySem PySem.Spec PyProof.Rows L2
variable [TabsT]

/-! ### tuples laid at several places -/
def putR : Hp → List Addr → List (List V) → Hp
  | H, a :: as, r :: rs => putR (upd H a (.tup r)) as rs
  | H, _, _ => H
theorem putR_off {b : Addr} : ∀ {as : List Addr} {rs : List (List V)} {H : Hp}, b ∉ as → putR H as rs b = H b
  | [], _, _, _ => rfl
  | _ :: _, [], _, _ => rfl
  | a :: as, r :: rs, H, h => by
    have h' : b ≠ a ∧ b ∉ as := by simpa only [List.mem_cons, not_or] using h
    show putR (upd H a (.tup r)) as rs b = H b
    rw [putR_off h'.2, upd_ne h'.1]
theorem putR_at : ∀ {as : List Addr} {rs : List (List V)} {H : Hp} {j : Nat} {a : Addr} {r : List V}, as.Nodup → as[j]? = some a → rs[j]? = some r → putR H as rs a = some (.tup r)
  | [], _, _, _, _, _, _, h, _ => by simp at h
  | _ :: _, [], _, _, _, _, _, _, h => by simp at h
  | b :: as, q :: rs, H, 0, a, r, hn, h1, h2 => by
    have e1 : b = a := Option.some.inj h1
    have e2 : q = r := Option.some.inj h2
    subst e1 e2
    show putR (upd H b (.tup q)) as rs b = _
    rw [putR_off (List.nodup_cons.mp hn).1, upd_same]
  | b :: as, q :: rs, H, j + 1, a, r, hn, h1, h2 => putR_at (as := as) (rs := rs) (H := upd H b (.tup q)) (j := j) (List.nodup_cons.mp hn).2 (by simpa using h1) (by simpa using h2)
section
variable {X : Cx} {pins : List (Addr × Obj)} {σ : St} {H : Hp} {s : Shared}
theorem rows_laid {h' : Heap} {tk c : Nat} {acc : Array Value} {L : Addr} {as : List Addr} {rs : List (List V)} (I : Inv X pins σ H s) (hk : ∀ b o, s.heap.get? b = some o → h'.get? b = some o) (hL : s.heap.objs.size ≤ L) (hS : h'.get? L = some { cls := .type "list", dict := none, data := .seq acc c, slots := #[] })
    (rise : as.Pairwise (· < ·)) (above : ∀ a ∈ as, L < a) (hz : as.length ≤ sizeLine) (hl : as.length = rs.length) (hacc : acc.toList = as.map Value.ref)
    (ht : ∀ (j : Nat) (a : Addr) (r : List V), as[j]? = some a → rs[j]? = some r → ∃ us : List Value, Vals r us ∧ h'.IsTuple a us.toArray ∧ r.length ≤ sizeLine) :
    H L = none ∧ (∀ t ∈ as, H t = none) ∧ L ∉ as ∧ as.Nodup ∧ Inv X pins σ (putR (upd H L (.lst (as.map V.ref))) as rs) { s with heap := h', toks := tk } := by
  have nL : L ∉ as := fun z => Nat.lt_irrefl _ (above L z)
  have nd : as.Nodup := rise.imp fun h => Nat.ne_of_lt h
  have new : ∀ t ∈ as, H t = none := fun t h => I.hok.fresh (Nat.le_trans hL (Nat.le_of_lt (above t h)))
  have newL : H L = none := I.hok.fresh hL
  have off : ∀ b, b ∉ as → b ≠ L → putR (upd H L (.lst (as.map V.ref))) as rs b = H b := fun b h1 h2 => by rw [putR_off h1, upd_ne h2]
  have kp : ∀ b u, H b = some u → putR (upd H L (.lst (as.map V.ref))) as rs b = some u := fun b u e => by
    rw [off b (fun z => by rw [new b z] at e; cases e) fun z => by rw [z, newL] at e; cases e]
    exact e
  have low : ∀ b o, s.heap.get? b = some o → b ∉ as ∧ b ≠ L := fun b o e => ⟨fun z => absurd (Heap.lt_size e) (Nat.not_lt.mpr (Nat.le_trans hL (Nat.le_of_lt (above b z)))), fun z => absurd (Heap.lt_size e) (Nat.not_lt.mpr (by rw [z]; exact hL))⟩
  refine ⟨newL, new, nL, nd, I.call' (ch := []) rfl ⟨fun b o q _ _ _ => hk b o q, fun b o q _ _ _ => ⟨o.slots, hk b o q⟩, fun b o q n _ => ?_, fun b o q _ => ⟨o, hk b o q⟩, fun b xs q => kp b _ q, fun b o u q => kp b _ q, fun b ps q => ⟨#[], by rw [kp b _ q]; simp⟩⟩ (fun b u q => ?_) I.bare fun b z => by simp at z⟩
  · obtain ⟨z1, z2⟩ := low b o q
    rw [off b z1 z2]
    exact n
  · by_cases hb : b ∈ as
    · obtain ⟨j, hj⟩ := List.mem_iff_getElem?.mp hb
      have jl : j < rs.length := by rw [← hl]; exact (List.getElem?_eq_some_iff.mp hj).1
      rw [putR_at nd hj (List.getElem?_eq_getElem jl)] at q
      cases q
      obtain ⟨us, v1, v2, v3⟩ := ht j b _ hj (List.getElem?_eq_getElem jl)
      exact ⟨v3, us, v1, v2⟩
    · by_cases hb2 : b = L
      · rw [hb2] at q ⊢
        rw [putR_off nL, upd_same] at q
        cases q
        refine ⟨by rw [List.length_map]; exact hz, acc.toList, c, by rw [hacc]; exact LiI.vals_refs as, ?_⟩
        rw [Array.toArray_toList]
        exact hS
      · rw [off b hb hb2] at q
        exact (I.hok b u q).stay (fun d v _ y => hk d v y) (fun d y => kp d _ y) fun d xs y => kp d _ y
def zipV (xs ys zs : List V) : List (List V) := List.zipWith (fun (p : V × V) z => [p.1, p.2, z]) (xs.zip ys) zs
theorem zipV_len (xs ys zs : List V) : (zipV xs ys zs).length = min (min xs.length ys.length) zs.length := by unfold zipV; rw [List.length_zipWith, List.length_zip]
theorem zipV_get {xs ys zs : List V} {j : Nat} {r : List V} (h : (zipV xs ys zs)[j]? = some r) : ∃ x y z, xs[j]? = some x ∧ ys[j]? = some y ∧ zs[j]? = some z ∧ r = [x, y, z] := by
  obtain ⟨⟨x, y⟩, z, h1, h2, rfl⟩ := List.getElem?_zipWith_eq_some.mp h
  obtain ⟨a, b, q1, q2, q⟩ := List.getElem?_zipWith_eq_some.mp (show (List.zipWith Prod.mk xs ys)[j]? = _ from h1)
  cases q
  exact ⟨x, y, z, q1, q2, h2, rfl⟩
def tListZip3 (K : PySem.W.Frag) (ta : TA) : TE := fun σ H Q => ta σ H fun vs H1 => ∃ a b c xs ys zs, vs = [.ref a.2, .ref b.2, .ref c.2] ∧ SqB K a H1 xs ∧ SqB K b H1 ys ∧ SqB K c H1 zs ∧
  ∀ (L : Addr) (as : List Addr), H1 L = none → (∀ t ∈ as, H1 t = none) → L ∉ as → as.Nodup → as.length = (zipV xs ys zs).length → Q (.ref L) (putR (upd H1 L (.lst (as.map V.ref))) as (zipV xs ys zs))
theorem SqB.len {b : Bool × Addr} {vs : List V} (q : SqB X.K b H vs) (I : Inv X pins σ H s) : vs.length ≤ sizeLine := by
  obtain ⟨c, a⟩ := b
  cases c with
  | true => exact let ⟨_, _, _, h⟩ := I.tuple q; h
  | false => exact let ⟨_, _, _, h⟩ := I.list q; h
theorem pe_listZip3 {e e2 e3 : Expr} {ta : TA} {p p2 pos pos2 : Pos} (hc : X.calm = true) (hgl : Gl X "list") (hml : X.mg "list" = none) (hg : Gl X "zip") (hm : X.mg "zip" = none) (ha : PA X [e, e2, e3] ta)
    (hs : starEach [e, e2, e3] X.env = (false, eval e X.env) :: starEach [e2, e3] X.env := by rfl) (hpl : (backTo pos2 (starEach [e2, e3] X.env)).any (·.1) = false := by rfl)
    (na : starEach [.Call (.Name "zip" p2) [e, e2, e3] [] pos2] X.env = (false, eval (.Call (.Name "zip" p2) [e, e2, e3] [] pos2) X.env) :: starEach [] X.env := by rfl) :
    PE X (.Call (.Name "list" p) [.Call (.Name "zip" p2) [e, e2, e3] [] pos2] [] pos) (tListZip3 X.K ta) := by
  refine ⟨fun pins s σ H Q I h => ?_⟩
  refine Call_ (ld_blt I hgl hml boot_list (PyProof.Rows.callWith_type1 (PyProof.Rows.args_cons ?_ na) na rfl))
  refine Call_ (ld_blt I hg hm PyProof.Rows.boot_zip (PyProof.Rows.callWith_type1 (thn (ha.run pos2 pins s σ H _ I h) fun us s1 ⟨vs, H1, I1, r1, q1⟩ => ?_) hs hpl))
  obtain ⟨a, b, c, xs, ys, zs, rfl, qx, qy, qz, k⟩ := q1
  cases r1 with
  | cons r rr =>
    cases rr with
    | cons r' rr =>
      cases rr with
      | cons r'' rr =>
        cases rr
        cases r
        cases r'
        cases r''
        obtain ⟨its, rv, p1, l1⟩ := qx.inv I1
        obtain ⟨its2, rv2, p2', l2⟩ := qy.inv I1
        obtain ⟨its3, rv3, p3, l3⟩ := qz.inv I1
        refine zip_begins3 (beginsB a its.toArray) (beginsB b its2.toArray) (beginsB c its3.toArray) p1 p2' p3 fun h' hz hTI hTO h1 h2 h3 hsz hk => PyProof.Rows.args_nil ?_
        have hh : X.A.in1.in1.in1.handled = none := I1.ok.hd hc
        have lt : ∀ {d : Addr} {t : Nat}, d < s1.heap.objs.size → ∀ q ∈ [s1.heap.objs.size + t, d], t < 6 → q < h'.objs.size := fun {d t} hd q hq ht => by
          rw [hsz]
          rcases List.mem_cons.mp hq with z | z
          · rw [z]; exact Nat.add_lt_add_left ht _
          · rw [List.mem_singleton.mp z]; exact Nat.lt_of_lt_of_le hd (Nat.le_add_right _ _)
        refine call_listZip3 (s := { s1 with heap := h' }) (N := (zipV xs ys zs).length) (zip_sep3 (lt_one l1) (lt_one l2) (lt_one l3)) (drawsB hh a s1.heap.objs.size (Nat.ne_of_lt l1) its.toArray) (drawsB hh b (s1.heap.objs.size + 1) (Nat.ne_of_lt (Nat.lt_succ_of_lt l2)) its2.toArray)
          (drawsB hh c (s1.heap.objs.size + 2) (Nat.ne_of_lt (Nat.lt_succ_of_lt (Nat.lt_succ_of_lt l3))) its3.toArray) (by rw [zipV_len, List.size_toArray, List.size_toArray, List.size_toArray, ← rv.length, ← rv2.length, ← rv3.length]) (by rw [zipV_len]; exact Nat.le_trans (Nat.min_le_right _ _) (qz.len I1))
          hz hTO hTI ⟨coreB.begin h1, (beginsB a its.toArray).keeps _ _ p1 hk⟩ ⟨coreB.begin h2, (beginsB b its2.toArray).keeps _ _ p2' hk⟩ ⟨coreB.begin h3, (beginsB c its3.toArray).keeps _ _ p3 hk⟩
          (fun q hq => lt (t := 0) l1 q hq (by decide)) (fun q hq => lt (t := 1) l2 q hq (by decide)) (fun q hq => lt (t := 2) l3 q hq (by decide)) fun h'' tk acc cc as kk hS hl hG hacc => ?_
        have keep : ∀ b o, s1.heap.get? b = some o → h''.get? b = some o := fun b o e => by
          have q := Heap.lt_size e
          have ne : ∀ t, b ≠ s1.heap.objs.size + t := fun t => Nat.ne_of_lt (Nat.lt_of_lt_of_le q (Nat.le_add_right _ _))
          exact kk b o (ne 5) (ne 4) (ne 0) (ne 1) (ne 2) (hk b o e)
        have big : s1.heap.objs.size ≤ h'.objs.size := by rw [hsz]; exact Nat.le_add_right _ _
        obtain ⟨c1, c2, c3, c4, J⟩ := rows_laid (tk := tk) I1 keep big hS hG.rise hG.above (by rw [hl, zipV_len]; exact Nat.le_trans (Nat.min_le_right _ _) (qz.len I1)) hl hacc fun j t r hj hr => by
          obtain ⟨u1, u2, u3, y1, y2, y3, y4⟩ := hG.tups j t hj
          obtain ⟨x1, x2, x3, w1, w2, w3, rfl⟩ := zipV_get hr
          exact ⟨[u1, u2, u3], .cons (vals_at rv w1 y1) (.cons (vals_at rv2 w2 y2) (.cons (vals_at rv3 w3 y3) .nil)), ⟨_, y4, rfl, _, rfl⟩, by show 3 ≤ sizeLine; decide⟩
        exact ⟨.ref _, _, J, rfl, k _ as c1 c2 c3 c4 hl⟩
end
section
variable {K : PySem.W.Frag} {σ : St} {e : Env}
theorem putR_abs : ∀ {as : List Addr} {rs : List (List V)} {H S : Hp}, Abs K σ H S e → (∀ a ∈ as, H a = none) → as.Nodup → Abs K σ (putR H as rs) (putR S as rs) e ∧ Ext σ e H S σ e (putR H as rs) (putR S as rs)
  | [], _, H, S, A, _, _ => ⟨A, Ext.refl⟩
  | _ :: _, [], H, S, A, _, _ => ⟨A, Ext.refl⟩
  | a :: as, r :: rs, H, S, A, hn, nd => by
    have ha := hn a (List.mem_cons_self ..)
    have A1 := abs_newS (o := .tup r) A ha
    have E1 := ext_newS (o := .tup r) A ha
    obtain ⟨A2, E2⟩ := putR_abs (as := as) (rs := rs) A1 (fun b hb => by rw [upd_ne fun z => (List.nodup_cons.mp nd).1 (by rw [← z]; exact hb)]; exact hn b (List.mem_cons_of_mem _ hb)) (List.nodup_cons.mp nd).2
    exact ⟨A2, E1.trans E2⟩
end
def zipL3 (xs : List D) : M Val := fun e => match xs with
  | [a, b, c] => if isSeq a = true ∧ isSeq b = true ∧ isSeq c = true then .ok (.new (.lst (zip3D (itsD a) (itsD b) (itsD c)))) e else .bad
  | _ => .bad
section
variable {X : Cx} {W : WX} {fs : M (List D)} {p p2 pos pos2 : Pos} {a b c : Expr}
theorem de_listZip3 (hc : X.calm = true) (hm1 : X.mg "list" = none) (hm2 : X.mg "zip" = none) (ha : DF X W [a, b, c] fs) (hg1 : Gl X "list" := by rfl) (hg2 : Gl X "zip" := by rfl)
    (hs : starEach [a, b, c] X.env = (false, eval a X.env) :: starEach [b, c] X.env := by rfl) (hpl : (backTo pos2 (starEach [b, c] X.env)).any (·.1) = false := by rfl)
    (na : starEach [.Call (.Name "zip" p2) [a, b, c] [] pos2] X.env = (false, eval (.Call (.Name "zip" p2) [a, b, c] [] pos2) X.env) :: starEach [] X.env := by rfl) :
    DE X W (.Call (.Name "list" p) [.Call (.Name "zip" p2) [a, b, c] [] pos2] [] pos) (M.bind fs zipL3) :=
  ⟨PE.weak (pe_listZip3 hc hg1 hm1 hg2 hm2 ha.pa hs hpl na) fun σ H Q ⟨S, e, A, g⟩ => by
    refine tDx.step A Ext.refl g fun xs e1 H1 S1 ws A1 E1 _ r g1 => ?_
    unfold zipL3 at g1
    split at g1
    · rename_i d1 d2 d3
      split at g1
      · rename_i hs
        obtain ⟨w, us, rfl, r1, r2⟩ := repL_cons.mp r
        obtain ⟨w2, us2, rfl, r3, r4⟩ := repL_cons.mp r2
        obtain ⟨w3, us3, rfl, r5, r6⟩ := repL_cons.mp r4
        rw [repL_nil] at r6
        subst r6
        obtain ⟨b1, v1, rfl, k1, k2⟩ := seq_src r1 hs.1
        obtain ⟨b2, v2, rfl, k3, k4⟩ := seq_src r3 hs.2.1
        obtain ⟨b3, v3, rfl, k5, k6⟩ := seq_src r5 hs.2.2
        refine ⟨b1, b2, b3, v1, v2, v3, rfl, k2 H1 A1.sub, k4 H1 A1.sub, k6 H1 A1.sub, fun L as hL has nL nd hl => ?_⟩
        have hz := zipV_len v1 v2 v3
        have A2 := abs_new (o := .lst (as.map V.ref)) A1 hL
        have E2 := E1.trans (ext_new (σ := σ) (e := e1) (S := S1) (o := .lst (as.map V.ref)) hL)
        obtain ⟨A3, E3⟩ := putR_abs (rs := zipV v1 v2 v3) A2 (fun t ht => by rw [upd_ne fun z => nL (by rw [← z]; exact ht)]; exact has t ht) nd
        have sL : putR S1 as (zipV v1 v2 v3) L = none := by rw [putR_off nL]; exact A1.sub.free hL
        refine g1 _ _ (.ref L) A3 (E2.trans E3) ⟨L, rfl, sL, ⟨as.map V.ref, by rw [putR_off nL, upd_same], ?_⟩, fun z => (not_had A1 hL) ?_, E1.tr L hL⟩
        · refine .of_get (by rw [zip3D_len, List.length_map, hl, hz, k1.length, k3.length, k5.length]) fun i d v hd hv => ?_
          rw [List.getElem?_map] at hv
          cases q : as[i]? with
          | none => rw [q] at hv; cases hv
          | some t =>
            rw [q] at hv
            cases hv
            have il : i < (zipV v1 v2 v3).length := by rw [← hl]; exact (List.getElem?_eq_some_iff.mp q).1
            have hr := List.getElem?_eq_getElem il
            obtain ⟨x1, x2, x3, w1, w2, w3, er⟩ := zipV_get hr
            unfold zip3D at hd
            obtain ⟨⟨y1, y2⟩, y3, hy12, hy3, rfl⟩ := List.getElem?_zipWith_eq_some.mp hd
            obtain ⟨z1, z2, q1, q2, qq⟩ := List.getElem?_zipWith_eq_some.mp (show (List.zipWith Prod.mk (itsD d1) (itsD d2))[i]? = _ from hy12)
            cases qq
            obtain ⟨t1, u1, u2⟩ := k1.get q1
            obtain ⟨t2, u3, u4⟩ := k3.get q2
            obtain ⟨t3, u5, u6⟩ := k5.get hy3
            rw [w1] at u1
            rw [w2] at u3
            rw [w3] at u5
            cases u1
            cases u3
            cases u5
            have sm : Same S1 (putR S1 as (zipV v1 v2 v3)) := E3.sm
            exact rep_tupS.mpr ⟨t, _, rfl, putR_at nd q hr, by rw [er]; exact .mk3 (u2.same sm) (u4.same sm) (u6.same sm)⟩
        · exact (E3.hd L z).elim id fun y => by rw [upd_same] at y; cases y
      · exact g1.elim
    · exact g1.elim⟩
end
end DL

set_option maxHeartbeats 4000000
/-! DL21: o.f = v; C(..). -/
namespace DL
open PySem PySem.Spec PyProof.Rows L2
variable [TabsT]

/-! ### a field of an own object, stored -/
def putZ {α : Type} (f : Str) (y : α) : List Str → List α → List Str × List α
  | [], _ => ([f], [y])
  | g :: ns, x :: xs => if g = f then (g :: ns, y :: xs) else (g :: (putZ f y ns xs).1, x :: (putZ f y ns xs).2)
  | g :: ns, [] => (g :: ns, [])
theorem putZ_zip {f : Str} {y : V} : ∀ {ns : List Str} {vs : List V}, ns.length = vs.length → L2.putF f y (ns.zip vs) = (putZ f y ns vs).1.zip (putZ f y ns vs).2
  | [], [], _ => rfl
  | [], _ :: _, h => by simp at h
  | _ :: _, [], h => by simp at h
  | g :: ns, x :: vs, h => by
    have ih := putZ_zip (f := f) (y := y) (ns := ns) (vs := vs) (by simpa using h)
    unfold putZ
    rw [List.zip_cons_cons]
    unfold L2.putF
    by_cases e : g = f
    · rw [if_pos e, if_pos e]
      rfl
    · rw [if_neg e, if_neg e, ih]
      rfl
theorem putZ_len {α : Type} {f : Str} {y : α} : ∀ {ns : List Str} {vs : List α}, ns.length = vs.length → (putZ f y ns vs).1.length = (putZ f y ns vs).2.length
  | [], [], _ => rfl
  | [], _ :: _, h => by simp at h
  | _ :: _, [], h => by simp at h
  | g :: ns, x :: vs, h => by
    have ih := putZ_len (f := f) (y := y) (ns := ns) (vs := vs) (by simpa using h)
    unfold putZ
    by_cases e : g = f
    · rw [if_pos e]
      simpa using h
    · rw [if_neg e]
      simpa using ih
theorem putZ_rep {K : PySem.W.Frag} {S : Hp} {f : Str} {d : D} {w : V} (r : Rep K S d w) : ∀ {ns : List Str} {xs : List D} {vs : List V}, ns.length = vs.length → RepL K S xs vs → (putZ f d ns xs).1 = (putZ f w ns vs).1 ∧ RepL K S (putZ f d ns xs).2 (putZ f w ns vs).2
  | [], xs, vs, h, rl => ⟨rfl, .cons r .nil⟩
  | g :: ns, [], vs, h, rl => by
    rw [repL_nil] at rl
    subst rl
    simp at h
  | g :: ns, x :: xs, vs, h, rl => by
    obtain ⟨v, us, rfl, r1, r2⟩ := repL_cons.mp rl
    obtain ⟨i1, i2⟩ := putZ_rep r (f := f) (ns := ns) (xs := xs) (vs := us) (by simpa using h) r2
    unfold putZ
    by_cases e : g = f
    · rw [if_pos e, if_pos e]
      exact ⟨rfl, .cons r r2⟩
    · rw [if_neg e, if_neg e]
      exact ⟨by rw [i1], .cons r1 i2⟩
def putFld (cs : List Str) (f : Str) (t : Val) (d : D) : SM := fun e => match t with
  | .at_ i => (match e[i]? with
    | some (.ow (.ins c ns xs)) => if c ∈ cs ∧ ns.length < 1000 then .nx (e.set i (.ow (.ins c (putZ f d ns xs).1 (putZ f d ns xs).2))) else .bad
    | _ => .bad)
  | _ => .bad
def sFldS (cs : List Str) (f : Str) (fe fo : M Val) : SM := sBind fe fun v => sBind (frz v) fun d => sBind fo fun t => putFld cs f t d
section
variable {X : Cx} {W : WX} {np : Nat} {pos pos' : Pos} {ex o : Expr} {fe fo : M Val} {f : Str} {cs : List Str}
theorem ds_fld (h : DE X W ex fe) (ho : DE X W o fo) (hC : ∀ c ∈ cs, Cls X.K (He.ga X.K c) ∧ NoAttr X.K (He.ga X.K c) f) (hs : swapsWith ex (some (.Attribute o f pos')) pos.line X.env = pure false := by rfl) : DS X W np (.Assign [.Attribute o f pos'] ex pos) (sFldS cs f fe fo) :=
  ⟨PS.weak (ps_fld ho.pe h.pe hs) fun D σ H ⟨S, e, A, k⟩ => by
    refine sBind.step A k fun v e1 H1 S1 w A1 E1 hv k1 => ?_
    refine frzS_step A1 E1 hv k1 fun x e2 S2 A2 E2 _ r k2 => ?_
    refine sBind.step A2 (SGoal.from k2 E2 Pr.refl) fun t e3 H3 S3 wt A3 E3 ht k3 => ?_
    unfold putFld at k3
    split at k3
    · rename_i i
      split at k3
      · rename_i c ns xs q
        split at k3
        · rename_i hc
          obtain ⟨s, q1, q2, q3⟩ := ht
          obtain ⟨a, b1, b2, dx, vs, b3, b4, b5⟩ := A3.at_ i _ q
          rw [q3] at b1
          cases b1
          obtain ⟨p1, p2⟩ := putZ_rep (r.same E3.sm) (f := f) b4 b5
          have l : (putZ f w ns vs).1.length = (putZ f w ns vs).2.length := putZ_len b4
          refine ⟨a, He.ga X.K c, dx, ns.zip vs, rfl, b3, (hC c hc.1).1, (hC c hc.1).2, by rw [List.length_zip]; exact Nat.lt_of_le_of_lt (Nat.min_le_left _ _) hc.2, ?_⟩
          rw [putZ_zip b4]
          have e1 := own_write (o' := .ins c (putZ f x ns xs).1 (putZ f x ns xs).2) (u := .ins (He.ga X.K c) dx ((putZ f w ns vs).1.zip (putZ f w ns vs).2)) A3 q q3 ⟨dx, (putZ f w ns vs).2, by rw [p1]; exact upd_same, by rw [p1]; exact l, p2⟩
          exact k3 σ _ S3 e1.1 (E3.trans e1.2) Pr.refl
        · exact k3.elim
      · exact k3.elim
    · exact k3.elim⟩
end

/-! ### C(..) -/
def makeV (c : Str) (F : M Val) (dfl : List D) (vs : List Val) : M Val := fun e => match callV F dfl (.at_ e.length :: vs) (e ++ [.ow (.ins c [] [])]) with
  | .ok (.d .non) e' => (match e'[e.length]? with
    | some (.ow o) => .ok (.new o) (e'.take e.length)
    | _ => .bad)
  | .er x e' => .er x (e'.take e.length)
  | _ => .bad
def dMake (c : Str) (F : M Val) (dfl : List D) (fs : M (List Val)) : M Val := M.bind fs (makeV c F dfl)
section
variable {K : PySem.W.Frag} {σ : St} {H0 H S : Hp} {e : Env} {x dx : Addr} {c : Str}
/-- the heap with a new instance -/
def madeH (H : Hp) (x dx : Addr) (C : Addr) : Hp := upd (upd H dx (.own x)) x (.ins C dx [])
theorem made_old {b : Addr} {o : HO} {C : Addr} (hx : H x = none) (hd : H dx = none) (h : H b = some o) : madeH H x dx C b = some o := by
  unfold madeH
  have n1 : b ≠ x := fun z => by rw [z, hx] at h; cases h
  have n2 : b ≠ dx := fun z => by rw [z, hd] at h; cases h
  rw [upd_ne n1, upd_ne n2]
  exact h
theorem made_none {b : Addr} {C : Addr} (h : madeH H x dx C b = none) : H b = none ∧ b ≠ x := by
  unfold madeH at h
  by_cases z : b = x
  · rw [z, upd_same] at h; cases h
  · rw [upd_ne z] at h
    by_cases y : b = dx
    · rw [y, upd_same] at h; cases h
    · rw [upd_ne y] at h; exact ⟨h, z⟩
theorem app_get {α : Type} {l : List α} {a : α} {i : Nat} {s : α} (h : (l ++ [a])[i]? = some s) : (i < l.length ∧ l[i]? = some s) ∨ (i = l.length ∧ s = a) := by
  by_cases hi : i < l.length
  · rw [List.getElem?_append_left hi] at h; exact .inl ⟨hi, h⟩
  · rw [List.getElem?_append_right (by omega)] at h
    by_cases z : i - l.length = 0
    · rw [z] at h; exact .inr ⟨by omega, (Option.some.inj h).symm⟩
    · rw [List.getElem?_eq_none (by simp; omega)] at h; cases h
theorem made_abs (A : Abs K σ H S e) (hx : H x = none) (hd : H dx = none) : Abs K (σ ++ [some (.ref x)]) (madeH H x dx (He.ga K c)) S (e ++ [.ow (.ins c [] [])]) := by
  have sx : S x = none := A.sub.free hx
  have nh := not_had A hx
  refine ⟨by simp [A.len], fun b o h => made_old hx hd (A.sub b o h), fun i s hs => ?_, fun i j s t a h1 h2 o1 o2 x1 x2 => ?_, LamX.Tabs.ext A.tab (fun b o h => made_old hx hd h), A.nt, ot_upd (ot_upd A.ot rfl) rfl⟩
  · rcases app_get hs with ⟨hi, h⟩ | ⟨rfl, rfl⟩
    · rw [List.getElem?_append_left (by rw [← A.len]; exact hi)]
      have k := A.at_ i s h
      have up : ∀ (a : Addr) (o : O), ORep K H S a o → ORep K (madeH H x dx (He.ga K c)) S a o := fun a o r => by
        obtain ⟨u, hu⟩ := r.there
        exact r.mono (Same.refl _) ((made_old hx hd hu).trans hu.symm)
      cases s with
      | no => trivial
      | sh d => exact k
      | ow o => exact let ⟨a, h1, h2, h3⟩ := k; ⟨a, h1, h2, up a o h3⟩
      | lk o => exact let ⟨a, h1, h2, h3⟩ := k; ⟨a, h1, h2, up a o h3⟩
    · rw [A.len, List.getElem?_append_right (Nat.le_refl _), Nat.sub_self]
      exact ⟨x, rfl, sx, dx, [], upd_same, rfl, .nil⟩
  · have look : ∀ {i : Nat} {s : SV}, (e ++ [.ow (.ins c [] [])])[i]? = some s → isHad s = true → (σ ++ [some (.ref x)])[i]? = some (some (V.ref a)) → (e[i]? = some s ∧ σ[i]? = some (some (V.ref a)) ∧ a ≠ x) ∨ (i = e.length ∧ a = x) := fun {i s} hs hh hx' => by
      rcases app_get hs with ⟨hi, h⟩ | ⟨rfl, rfl⟩
      · rw [List.getElem?_append_left (by rw [← A.len]; exact hi)] at hx'
        exact .inl ⟨h, hx', fun z => nh ⟨i, s, h, hh, by rw [← z]; exact hx'⟩⟩
      · rw [A.len, List.getElem?_append_right (Nat.le_refl _), Nat.sub_self] at hx'
        cases hx'
        exact .inr ⟨rfl, rfl⟩
    rcases look h1 o1 x1 with ⟨a1, b1, c1⟩ | ⟨a1, b1⟩
    · rcases look h2 o2 x2 with ⟨a2, b2, c2⟩ | ⟨a2, b2⟩
      · exact A.ap i j s t a a1 a2 o1 o2 b1 b2
      · exact (c1 b2).elim
    · rcases look h2 o2 x2 with ⟨a2, b2, c2⟩ | ⟨a2, b2⟩
      · exact (c2 b1).elim
      · rw [a1, a2]
theorem made_vs (A : Abs K σ H S e) (hx : H x = none) (hd : H dx = none) : ∀ {vs : List Val} {ws : List V}, VsAt K σ H0 H S e vs ws → VsAt K (σ ++ [some (.ref x)]) H0 (madeH H x dx (He.ga K c)) S (e ++ [.ow (.ins c [] [])]) vs ws := fun {vs ws} h => paired_map h fun v w z => by
  cases v with
  | d y => exact z
  | new o =>
    obtain ⟨a, k1, k2, k3, k4, k5⟩ := z
    obtain ⟨u, hu⟩ := k3.there
    refine ⟨a, k1, k2, k3.mono (Same.refl _) ((made_old hx hd hu).trans hu.symm), fun y => ?_, k5⟩
    obtain ⟨i, s, h1, h2, h3⟩ := y
    rcases app_get h1 with ⟨hi, h⟩ | ⟨rfl, rfl⟩
    · rw [List.getElem?_append_left (by rw [← A.len]; exact hi)] at h3
      exact k4 ⟨i, s, h, h2, h3⟩
    · rw [A.len, List.getElem?_append_right (Nat.le_refl _), Nat.sub_self] at h3
      cases h3
      rw [hx] at hu
      cases hu
  | at_ i =>
    obtain ⟨s, k1, k2, k3⟩ := z
    have hi : i < e.length := (List.getElem?_eq_some_iff.mp k1).1
    exact ⟨s, by rw [List.getElem?_append_left hi]; exact k1, k2, by rw [List.getElem?_append_left (by rw [← A.len]; exact hi)]; exact k3⟩
/-- before it: the last slot new -/
theorem made_ext {S0 : Hp} {e0 : Env} (A : Abs K σ H S e) (E : Ext σ e0 H0 S0 σ e H S) (hx : H x = none) (hd : H dx = none) : Ext (σ ++ [some (.ref x)]) e0 H0 S0 (σ ++ [some (.ref x)]) (e ++ [.ow (.ins c [] [])]) (madeH H x dx (He.ga K c)) S := by
  have up : ∀ {i : Nat} {v : Option V}, σ[i]? = some v → (σ ++ [some (V.ref x)])[i]? = some v := fun {i v} h => by rw [List.getElem?_append_left (List.getElem?_eq_some_iff.mp h).1]; exact h
  have P : ∀ j, j < e.length → (σ ++ [some (V.ref x)])[j]? = σ[j]? := fun j hj => List.getElem?_append_left (by rw [← A.len]; exact hj)
  have x0 : H0 x = none := E.tr x hx
  refine ⟨E.sm, fun b o h n nt => ?_, fun b h => E.tr b (made_none h).1, fun k b ⟨i, s, h0, h1, h2, h3⟩ => ?_, fun b ⟨i, s, h1, h2, h3⟩ => ?_, fun i s h hk => ?_, fun t => LamX.Tabs.ext (E.tb t) fun b o h => made_old hx hd h⟩
  · obtain ⟨k1, k2⟩ := E.fr b o h (fun ⟨i, s, h0, h1, h2, h3⟩ => n ⟨i, s, h0, h1, h2, up h3⟩) nt
    exact ⟨made_old hx hd k1, k2⟩
  · rcases app_get h1 with ⟨hi, h⟩ | ⟨rfl, rfl⟩
    · rw [P i hi] at h3
      exact (E.ow k b ⟨i, s, h0, h, h2, h3⟩).imp (fun ⟨j, t, j0, j1, j2, j3⟩ => ⟨j, t, j0, j1, j2, up j3⟩) id
    · rw [A.len, List.getElem?_append_right (Nat.le_refl _), Nat.sub_self] at h3
      cases h3
      exact .inr x0
  · rcases app_get h1 with ⟨hi, h⟩ | ⟨rfl, rfl⟩
    · rw [P i hi] at h3
      exact (E.hd b ⟨i, s, h, h2, h3⟩).imp (fun ⟨j, t, j1, j2, j3⟩ => ⟨j, t, j1, j2, up j3⟩) id
    · rw [A.len, List.getElem?_append_right (Nat.le_refl _), Nat.sub_self] at h3
      cases h3
      exact .inr x0
  · rcases app_get h with ⟨hi, h⟩ | ⟨rfl, rfl⟩
    · exact ⟨(E.lk i s h hk).1, rfl⟩
    · cases hk
/-- behind it: the last slot gone -/
theorem made_end {H' S' S0 : Hp} {e' e0 : Env} (A : Abs K σ H S e) (x0 : H0 x = none) (A' : Abs K (σ ++ [some (.ref x)]) H' S' e') (E' : Ext (σ ++ [some (.ref x)]) e0 H0 S0 (σ ++ [some (.ref x)]) e' H' S') :
    Abs K σ H' S' (e'.take e.length) ∧ Ext σ e0 H0 S0 σ (e'.take e.length) H' S' := by
  have P : ∀ j, j < e.length → (σ ++ [some (V.ref x)])[j]? = σ[j]? := fun j hj => List.getElem?_append_left (by rw [← A.len]; exact hj)
  have cut : ∀ {i : Nat} {b : Addr}, (σ ++ [some (V.ref x)])[i]? = some (some (V.ref b)) → σ[i]? = some (some (V.ref b)) ∨ b = x := fun {i b} h => by
    rcases app_get h with ⟨_, h⟩ | ⟨_, h⟩
    · exact .inl h
    · cases h; exact .inr rfl
  refine ⟨take_abs A' A.len.symm (by simp [A.len]) P, E'.sm, fun b o h n nt => E'.fr b o h ?_ nt, E'.tr, fun k b h => ?_, fun b h => ?_, fun i s h hk => ?_, E'.tb⟩
  · rintro ⟨i, s, h0, h1, h2, h3⟩
    rcases cut h3 with z | z
    · exact n ⟨i, s, h0, h1, h2, z⟩
    · rw [z, x0] at h; cases h
  · rcases E'.ow k b (own_take P h) with ⟨i, s, h0, h1, h2, h3⟩ | z
    · rcases cut h3 with z | z
      · exact .inl ⟨i, s, h0, h1, h2, z⟩
      · exact .inr (by rw [z]; exact x0)
    · exact .inr z
  · rcases E'.hd b (had_take P h) with ⟨i, s, h1, h2, h3⟩ | z
    · rcases cut h3 with z | z
      · exact .inl ⟨i, s, h1, h2, z⟩
      · exact .inr (by rw [z]; exact x0)
    · exact .inr z
  · rw [List.getElem?_take] at h
    split at h
    · exact ⟨(E'.lk i s h hk).1, rfl⟩
    · cases h
theorem make_spD {W : WX} {S0 : Hp} {e0 : Env} {F : M Val} {vs : List Val} {ws dws : List V} {dfl : List D} {Q : VK} (A : Abs K σ H S e) (E : Ext σ e0 H0 S0 σ e H S) (h : VsAt K σ H0 H S e vs ws) (hd : RepL K S dfl dws) (hx : H x = none) (hdx : H dx = none)
    (g : Goal K W σ H0 S0 e0 (vAt K σ H0) (makeV c F dfl vs e) Q) : spD K F (.ref x :: (ws ++ dws)) (madeH H x dx (He.ga K c)) (fun v H2 => v = .non ∧ Q (.ref x) H2) (fun cc d H' => W cc d σ H') := by
  have A1 := made_abs (c := c) A hx hdx
  have x0 : H0 x = none := E.tr x hx
  have sl : (e ++ [SV.ow (.ins c [] [])])[e.length]? = some (.ow (.ins c [] [])) := by rw [List.getElem?_append_right (Nat.le_refl _), Nat.sub_self]; rfl
  have sv : (σ ++ [some (V.ref x)])[e.length]? = some (some (V.ref x)) := by rw [A.len, List.getElem?_append_right (Nat.le_refl _), Nat.sub_self]; rfl
  refine call_spD (W := fun cc d _ H' => W cc d σ H') (vs := .at_ e.length :: vs) (ws := .ref x :: ws) (Q := fun v H2 => v = .non ∧ Q (.ref x) H2) A1 (made_ext A E hx hdx) (.cons ⟨_, sl, rfl, sv⟩ (made_vs A hx hdx h)) hd ?_
  unfold makeV at g
  cases q : callV F dfl (.at_ e.length :: vs) (e ++ [.ow (.ins c [] [])]) with
  | bad => rw [q] at g; exact g.elim
  | er y e' =>
    rw [q] at g
    intro H' S' cc d A' E' hy
    obtain ⟨A2, E2⟩ := made_end A x0 A' E'
    exact g H' S' cc d A2 E2 hy
  | ok v e' =>
    rw [q] at g
    cases v with
    | at_ i => exact g.elim
    | new o => exact g.elim
    | d y =>
      cases y with
      | non =>
        simp only at g
        intro H' S' w A' E' hw
        refine ⟨rep_non.mp (show Rep K S' .non w from hw), ?_⟩
        split at g
        · rename_i o ho
          obtain ⟨A2, E2⟩ := made_end A x0 A' E'
          obtain ⟨a, k1, k2, k3⟩ := A'.at_ e.length _ ho
          rw [sv] at k1
          cases k1
          refine g H' S' (.ref x) A2 E2 ⟨x, rfl, k2, k3, fun z => ?_, x0⟩
          obtain ⟨i, s, h1, h2, h3⟩ := z
          rw [List.getElem?_take] at h1
          split at h1
          · rename_i hi
            have := A'.ap i e.length s (.ow o) x h1 ho h2 rfl (by rw [List.getElem?_append_left (by rw [← A.len]; exact hi)]; exact h3) sv
            omega
          · cases h1
        · exact g.elim
      | _ => exact g.elim
end
/-- making, where what is raised is wished for at the caller's slots -/
theorem run_mk {X : Cx} {CX : CXT} {k : Nat} {f C : Addr} {fd : FuncData} {ps : List Str} {sp : Sp} {dvs : List V} {ds : List Value} {E : XK} {pins : List (Addr × Obj)} {σ : St} {H : Hp} {s : Shared} {Q : VK} {us : List Value} {vs : List V} (Mc : Mk X.K C f) (F : FnOk X.prog X.w X.K X.mg X.base CX k f fd ps sp)
    (hr : Room (k + 1) X.A) (hb : Binds X.K fd ps ds) (hd : Vals dvs ds) (hx : PassesAt CX X σ E) (I : Inv X pins σ H s) (r : Vals vs us)
    (h : ∀ x dx, H x = none → H dx = none → dx ≠ x → sp (.ref x :: (vs ++ dvs)) (upd (upd H dx (.own x)) x (.ins C dx [])) (fun v H2 => v = .non ∧ Q (.ref x) H2) E) : wpAny (model X.prog X.w) X.A (call (.ref C) us) (EP X pins σ Q) X.xe s := by
  have q := h (s.heap.objs.size + 1) s.heap.objs.size (I.hok.fresh (Nat.le_succ _)) (I.hok.fresh (Nat.le_refl _)) (Nat.ne_of_lt (Nat.lt_succ_self _))
  have J := Inv.made (C := C) I
  have rr : Vals (V.ref (s.heap.objs.size + 1) :: (vs ++ dvs)) (Value.ref (s.heap.objs.size + 1) :: (us ++ ds)) := .cons rfl (r.append hd)
  have len : (Value.ref (s.heap.objs.size + 1) :: us ++ ds).length = ps.length := by
    have z := rr.length
    rw [F.len _ _ _ _ q] at z
    exact z.symm
  refine wpAny_call (make_map (f := f) I.kIn Mc.makes Mc.init (beq_iff_eq.mp Mc.fn) (codeAny_mono (F.run _ X.stack _ _ ⟨Value.ref (s.heap.objs.size + 1) :: us, []⟩ (Value.ref (s.heap.objs.size + 1) :: (us ++ ds)) _ _ E (hr.make C us []) (J.env0.make C us [])
    (hb _ (Value.ref (s.heap.objs.size + 1) :: us) J.kIn len) rr q) fun r' t hq => ?_))
  cases r' with
  | error e => exact hx pins _ _ e t J hq
  | ok fl =>
    cases fl with
    | ret u =>
      obtain ⟨v, H', I3, rv, ev, q3⟩ := J.after hq
      subst ev
      exact ⟨rv, ⟨V.ref (s.heap.objs.size + 1), H', I3, rfl, q3⟩⟩
    | next => exact False.elim hq
    | brk => exact False.elim hq
    | cont => exact False.elim hq
section
variable {X : Cx} {W : WX} {pos p : Pos} {ex : Expr} {es : List Expr} {fs : M (List Val)} {F : M Val} {k : Nat} {f : Addr} {fd : FuncData} {ps : List Str} {dvs : List V} {ds : List Value} {dfl : List D} {c : Str}
/-- C(..) -/
theorem de_make (Mc : Mk X.K (He.ga X.K c) f) (G : DFn X.prog X.w X.K X.mg X.base k f fd ps F) (hr : Room (k + 1) X.A) (hm : X.mg c = some (.ref (He.ga X.K c))) (hb : Binds X.K fd ps ds) (hd : Vals dvs ds) (hdd : ∀ S, RepL X.K S dfl dvs) (tk : Takes X W) (ha : DA X W (ex :: es) fs)
    (hg : Gl X c := by rfl) (hdb : (c == ("__debug__" : Str)) = false := by decide) (he : starEach (ex :: es) X.env = (false, eval ex X.env) :: starEach es X.env := by rfl) (hpl : (backTo pos (starEach es X.env)).any (·.1) = false := by rfl) :
    DE X W (.Call (.Name c p) (ex :: es) [] pos) (dMake c F dfl fs) := by
  refine ⟨⟨fun pins s σ H Q I h => ?_⟩⟩
  obtain ⟨S, e, A, g⟩ := h
  have step : tDA X.K W fs σ H fun vs H1 => ∀ x dx, H1 x = none → H1 dx = none → dx ≠ x → spD X.K F (.ref x :: (vs ++ dvs)) (upd (upd H1 dx (.own x)) x (.ins (He.ga X.K c) dx [])) (fun v H2 => v = .non ∧ Q (.ref x) H2) (WE W σ) :=
    tDx.step A Ext.refl g fun vs e1 H1 S1 ws A1 E1 _ v1 g1 => fun x dx hx hdx _ => make_spD A1 E1 v1 (hdd S1) hx hdx g1
  refine wpAny_Call_Name_kw (ld_glob I hg hm ?_ hdb)
  refine PySem.W.callWith_K (h₀ := X.base) I.ok.mod.kin Mc.kp (thn (ha.pa.run pos pins s σ H _ I step) fun us s1 ⟨vs, H1, I1, r, q⟩ => ⟨I1.kIn, ?_⟩) he hpl
  exact run_mk Mc G hr hb hd (passAt tk σ) I1 r q
end
end DL

set_option maxHeartbeats 4000000
/-! DL22: defs with defaults, classes, as things that may be called. -/
namespace DL
open PySem PySem.Spec PyProof.Rows L2
variable [TabsT]

/-- a def called with its last parameters left to their defaults dfl -/
structure CalleeD (P : Program) (w : World) (K : PySem.W.Frag) (mg : Str → Option Value) (base : Heap) (x : Str) (k : Nat) (ps : List Str) (dfl : List D) (F : M Val) : Prop where
  ex : ∃ fd dvs ds, mg x = some (.ref (He.ga K x)) ∧ PySem.W.keepIn K (.ref (He.ga K x)) = true ∧ Vals dvs ds ∧ (∀ S, RepL K S dfl dvs) ∧ Binds K fd ps ds ∧ DFn P w K mg base k (He.ga K x) fd ps F
/-- a class that is made with all arguments of its __init__ but the first -/
structure CalleeM (P : Program) (w : World) (K : PySem.W.Frag) (mg : Str → Option Value) (base : Heap) (x : Str) (k : Nat) (ps : List Str) (F : M Val) : Prop where
  ex : ∃ f fd, mg x = some (.ref (He.ga K x)) ∧ Mk K (He.ga K x) f ∧ Binds K fd ps [] ∧ DFn P w K mg base k f fd ps F
section
variable {X : Cx} {W : WX} {pos p : Pos} {ex : Expr} {es : List Expr} {fs : M (List Val)} {F : M Val} {x : Str} {k : Nat} {ps : List Str} {dfl : List D}
theorem dcallD (C : CalleeD X.prog X.w X.K X.mg X.base x k ps dfl F) (hr : Room k X.A) (tk : Takes X W) (ha : DA X W (ex :: es) fs) (hg : Gl X x := by rfl) (hdb : (x == ("__debug__" : Str)) = false := by decide)
    (he : starEach (ex :: es) X.env = (false, eval ex X.env) :: starEach es X.env := by rfl) (hpl : (backTo pos (starEach es X.env)).any (·.1) = false := by rfl) : DE X W (.Call (.Name x p) (ex :: es) [] pos) (dFn F dfl fs) := by
  obtain ⟨fd, dvs, ds, hm, hk, hv, hd, hb, G⟩ := C.ex
  exact de_call G hr hg hm hk hb hv hd tk ha hdb he hpl
theorem dmake (C : CalleeM X.prog X.w X.K X.mg X.base x k ps F) (hr : Room (k + 1) X.A) (tk : Takes X W) (ha : DA X W (ex :: es) fs) (hg : Gl X x := by rfl) (hdb : (x == ("__debug__" : Str)) = false := by decide)
    (he : starEach (ex :: es) X.env = (false, eval ex X.env) :: starEach es X.env := by rfl) (hpl : (backTo pos (starEach es X.env)).any (·.1) = false := by rfl) : DE X W (.Call (.Name x p) (ex :: es) [] pos) (dMake x F [] fs) := by
  obtain ⟨f, fd, hm, Mc, hb, G⟩ := C.ex
  exact de_make Mc G hr hm hb .nil (fun _ => .nil) tk ha hg hdb he hpl
end
/-- the j-th statement of a class -/
def inCls (i : Nat) : Stmt → Stmt
  | .ClassDef _ _ _ body _ _ _ _ _ _ pos => body.getD i (.Pass pos)
  | st => st
/-- all parameters of a def with defaults given -/
theorem binds_full {K : PySem.W.Frag} {x qual : Str} {params : Arguments} {body : List Stmt} {scope : Scope} {dvs : List V} {f : Addr} {fd : FuncData} {ps : List Str} (F : FunD K x qual params body scope dvs [] f fd) (hd : dvs ≠ [])
    (h : ∀ (T : Addr) (kV doc pm : Value) (an : Option Addr) (cdv ct : Value) (us its : List Value), us.length = ps.length → its.length = dvs.length →
      ∃ k, bindArgs (PySem.W.fnOf x qual params body scope (.ref T) kV doc pm an cdv ct) ⟨us, []⟩ = seqItems? (.ref T) >>= k ∧ k (some its.toArray) = pure (ps.zip (us ++ its.drop dvs.length))) : Binds K fd ps [] := by
  obtain ⟨ds, v, b⟩ := F.binds1 ps.length dvs.length hd (by rw [Nat.sub_self]; rfl) h
  rw [List.drop_length] at v
  cases v
  exact b
end DL

set_option maxHeartbeats 4000000
/-! DL23: repr of lists and tuples, where no repr is under way. -/
namespace DL
open PySem PySem.Spec PyProof.Rows L2
variable [TabsT]

/-- what repr tells of: all but dicts -/
def isDisp2 : PyData → Bool
  | .dict _ => false
  | _ => true
def rReprD (K : PySem.W.Frag) : List V → Hp → VK → Prop := fun xs H Q => ∃ (x : V) (d : PyData), xs = [x] ∧ Dp K H x d ∧ d.showable = true ∧ d.hasDict = false ∧ isDisp2 d = true ∧ d.depth ≤ 60 ∧ d.shown.length ≤ sizeLine ∧ Q (.str d.shown) H
def reprOk (d : D) : Bool := okN 60 d && (pd d).showable && !(pd d).hasDict && isDisp2 (pd d) && decide ((pd d).shown.length ≤ sizeLine)
def reprC (vs : List Val) : M Val := fun e => match vs with
  | [v] => (match vwD e v with
    | some d => if reprOk d = true then .ok (.d (.str (pd d).shown)) e else .bad
    | none => .bad)
  | _ => .bad
end DL

set_option maxHeartbeats 4000000
/-! DL24: f(k = v, ..): keywords alone, in the parameters' order. -/
namespace DL
open PySem PySem.Spec PyProof.Rows L2
variable [TabsT]

structure DK (X : Cx) (W : WX) (ks : List Keyword) (f : M (List Val)) : Prop where
  pk : PK X ks (tDA X.K W f)
theorem PK.weak {X : Cx} {e : List Keyword} {t t' : TA} (h : PK X e t) (k : ∀ σ H Q, t' σ H Q → t σ H Q) : PK X e t' := ⟨fun pos pins s σ H Q I q => h.run pos pins s σ H Q I (k σ H Q q)⟩
section
variable {X : Cx} {W : WX} {pos kpos : Pos} {ex : Expr} {kws : List Keyword} {f : M Val} {fs : M (List Val)} {nm : Option Str}
end
/-- all parameters by keywords -/
def KwAll (K : PySem.W.Frag) (fd : FuncData) (ps : List Str) : Prop := ∀ (s : Shared) (ws : List Value), K.In s.heap → ws.length = ps.length → BindsTo s fd ⟨[], ps.zip ws⟩ (ps.zip ws)
/-- a def that may be called by keywords alone -/
structure CalleeK (P : Program) (w : World) (K : PySem.W.Frag) (mg : Str → Option Value) (base : Heap) (x : Str) (k : Nat) (ps : List Str) (F : M Val) : Prop where
  ex : ∃ fd, mg x = some (.ref (He.ga K x)) ∧ PySem.W.keepIn K (.ref (He.ga K x)) = true ∧ KwAll K fd ps ∧ DFn P w K mg base k (He.ga K x) fd ps F
section
variable {X : Cx} {W : WX} {pos p : Pos} {kws : List Keyword} {fs : M (List Val)} {F : M Val} {x : Str} {k : Nat} {ps : List Str}
end
end DL

set_option maxHeartbeats 4000000
/-! DL25: the law's own def, called where no repr is under way; the end. -/
namespace DL
open PySem PySem.Spec PyProof.Rows L2
variable [TabsT]

/-- the law's call from the rows' caller -/
theorem law_end {P : Program} {w : World} {K : PySem.W.Frag} {mg mb : Str → Option Value} {k : Nat} {fa a : Addr} {fd : FuncData} {x : Str} {sp : Sp} {t : Shared} {vs : List Value} {ns : List Int}
    (KX : K.In t.heap) (h1 : t.heap.Ns mainGlobals mg) (h2 : t.heap.Ns builtinsNs mb) (h3 : ∀ x : Str, x ≠ "__name__" → mb x = bootBuiltins x) (h4 : t.heap.NoLimit) (h5 : t.gens = #[])
    (ha : t.heap.get? a = some { cls := .type "list", data := .seq vs.toArray }) (hi : IntsAre vs ns) (hl : ns.length ≤ sizeLine) (hr : Room k callerA)
    (F : ∀ base : Heap, K.In base → base.Ns mainGlobals mg → FnOk P w K mg base (L2.CX P w) k fa fd [x] sp) (bind : ∀ (s : Shared) (u : Value), BindsTo s fd ⟨[u], []⟩ [(x, u)])
    (hsp : ∀ H : Hp, Only H → SqL K H a (ns.map V.int) → sp [.ref a] H (fun v _ => v = .bl true) fun _ _ _ => False)
    (out : ∀ H e t', L2.CX P w [] H t (fun _ _ _ => False) e t' → False) :
    codeAny (model P w) callerA (.call (.ref fa) ⟨[.ref a], []⟩) (fun r t' => r = .ok (.ret (.bool true)) ∧ OldK t.heap t'.heap ∧ t'.os = t.os ∧ AllBare t'.gens) t := by
  have rv := vals_ints hi
  have lenV := hi.length
  have main : ∀ H : Hp, Only H → SqL K H a (ns.map V.int) → HOk P w H t.heap → (∀ b, H b ≠ none → b = a) → (H a ≠ none → K.lookup a = none) →
      codeAny (model P w) callerA (.call (.ref fa) ⟨[.ref a], []⟩) (fun r t' => r = .ok (.ret (.bool true)) ∧ OldK t.heap t'.heap ∧ t'.os = t.os ∧ AllBare t'.gens) t := by
    intro H hO hS hok only noK
    have notA : ∀ {b : Addr} {o : Obj} {es : Array DictEntry} {ep : Nat}, t.heap.get? b = some o → o.data = .dict es ep → H b = none := fun {b o es ep} e d => by
      cases q : H b with
      | none => rfl
      | some u =>
        obtain rfl : b = a := only b (by rw [q]; simp)
        rw [ha] at e
        cases e
        cases (show Data.seq vs.toArray _ = Data.dict es ep from d)
    have ns' : ∀ {b : Addr} {m : Str → Option Value}, t.heap.Ns b m → (hidT t.heap H).Ns b m := fun {b m} ⟨o, es, ep, e, d, r⟩ => ⟨o, es, ep, hidT_get e (notA e d), d, r⟩
    have kb : K.In (hidT t.heap H) := fun b o e => hidT_get (KX b o e) (by
      cases q : H b with
      | none => rfl
      | some u =>
        obtain rfl : b = a := only b (by rw [q]; simp)
        rw [noK (by rw [q]; simp)] at e
        cases e)
    have md : Mod K mg (hidT t.heap H) := ⟨kb, ns' h1, ⟨mb, ns' h2, h3⟩, let ⟨mc, q1, q2⟩ := h4; ⟨mc, ns' q1, q2⟩⟩
    have e0 : Env0 P w K mg (hidT t.heap H) callerA [] t H := ⟨rfl, md, fun b o e => of_hidT e, Nat.le_of_eq (hidT_size _ _), trivial, fun b hb => absurd (show b ∈ ([] : List Addr) from hb) (by simp), hok, .of_eq h5⟩
    refine codeAny_mono ((F _ kb (ns' h1)).run callerA [] t H ⟨[.ref a], []⟩ [.ref a] [.ref a] _ _ hr e0 (bind t (.ref a)) (.cons rfl .nil) (hsp H hO hS)) fun r t' h => ?_
    cases r with
    | error e => exact (out H e t' h).elim
    | ok fl =>
      cases fl with
      | next => exact False.elim h
      | brk => exact False.elim h
      | cont => exact False.elim h
      | ret u =>
        obtain ⟨v, H', os, bare, un, hok', r', q⟩ := h
        obtain rfl : v = .bl true := q
        obtain rfl : u = Value.bool true := r'
        refine ⟨rfl, OldK.of_keep fun b o e => ?_, os, bare⟩
        cases q : H b with
        | none => exact un.keep b o e q (fun z => absurd (show b ∈ ([] : List Addr) from z) (by simp)) (by simp)
        | some u =>
          rcases hO b with z | ⟨ob, xs, z⟩
          · rw [q] at z; cases z
          · obtain ⟨e1, _⟩ := hok b _ z
            obtain ⟨e2, _⟩ := hok' b _ (un.frzs b ob _ z)
            rw [e] at e1
            cases e1
            exact e2
  cases hk : K.lookup a with
  | some o =>
    have e := KX a o hk
    rw [ha] at e
    cases e
    exact main (fun _ => none) (fun _ => .inl rfl) (.inr ⟨_, vs.toArray, _, hk, rfl, rfl, rfl, by rw [List.size_toArray, lenV]; exact hl, by simpa using rv⟩) (fun b u z => nomatch (show (none : Option HO) = some u from z)) (fun b z => absurd rfl z) fun z => absurd rfl z
  | none =>
    refine main (fun b => if b = a then some (.frz { cls := .type "list", data := .seq vs.toArray } (.lst (ns.map V.int))) else none) (fun b => ?_) (.inl (.inr ⟨{ cls := .type "list", data := .seq vs.toArray }, if_pos rfl⟩)) (fun b u z => ?_) (fun b z => ?_) fun _ => hk
    · by_cases hb : b = a
      · exact .inr ⟨_, _, if_pos hb⟩
      · exact .inl (if_neg hb)
    · by_cases hb : b = a
      · cases (if_pos hb).symm.trans z
        subst hb
        exact ⟨ha, by rw [List.length_map]; exact hl, vs, _, rv, ha⟩
      · cases (if_neg hb).symm.trans z
    · by_cases hb : b = a
      · exact hb
      · exact absurd (if_neg hb) z
/-- a law walked: F gives the written part, the function object, the meaning over every base -/
theorem walk_G {l : PySem.W.OpenLaw} {n k : Nat} {q : Program} {loose : List Str} {XP : (Str → Option Value) → Heap → Prop} {YP : World → Heap → Prop} {d : DefRec} {x : Str}
    (hn : l.most = some n) (hn2 : n ≤ sizeLine) (hdf : d.params.defaults = []) (hr : Room k callerA)
    (F : ∀ (w : World) (mg : Str → Option Value) (fa : Addr) (h : Heap), YP w h → h.Ns mainGlobals mg → mg d.name = some (.ref fa) →
      ∃ (K : PySem.W.Frag) (fd : FuncData) (sp : Sp), K.In h ∧ (∀ (s : Shared) (u : Value), BindsTo s fd ⟨[u], []⟩ [(x, u)]) ∧
        (∀ (H : Hp) (a : Addr) (ns : List Int), ns.length ≤ n → Only H → SqL K H a (ns.map V.int) → sp [.ref a] H (fun v _ => v = .bl true) fun _ _ _ => False) ∧
        ∀ base : Heap, K.In base → base.Ns mainGlobals mg → FnOk l.prog w K mg base (L2.CX l.prog w) k fa fd [x] sp)
    (out : ∀ (w : World) (H : Hp) (s : Shared) (e : Value) (s' : Shared), L2.CX l.prog w [] H s (fun _ _ _ => False) e s' → False) : PySem.W.WalkO q loose XP YP l.row.toRowW d [] (fun f vs => PySem.call f vs) := by
  refine Att.attach_call hn hdf fun w s₀ t mg mb fa o pm cd doc a vs ns G Y ho hd hcd hmg hobj hints hlen hg => ?_
  obtain ⟨K, fd, sp, KX, hb, hsp, hF⟩ := F w mg fa _ Y G.T.g hmg
  exact law_end KX G.T.g G.T.b G.T.builtins G.T.nolimit hg hobj hints (Nat.le_trans hlen hn2) hr hF hb (fun H hO hS => hsp H a ns hlen hO hS) fun H e t' => out w H t e t'
end DL

set_option maxHeartbeats 4000000
/-! DL26: own errors whose __init__ says super().__init__(text) and keeps its argument in a field. -/
namespace DL
open PySem PySem.Spec PyProof.Rows L2
variable [TabsT]
abbrev supE (m : Str) (j : Nat) (p0 p1 p2 p3 p4 : Pos) : Expr := .Call (.Attribute (.Call (.Name "super" p0) [] [] p1) "__init__" p2) [.Constant (.str m) j p3] [] p4
/-- what the written part says of such a class and its __init__ -/
structure ErC (P : Program) (K : PySem.W.Frag) (C fI cda cc D : Addr) (fd : FuncData) : Prop where
  code : ∃ ccl cdd vs ccs file tf, K.lookup cda = some ⟨ccl, cdd, .fields vs, ccs⟩ ∧ vs[2]? = some (.str file tf) ∧ ((P.main.file : Str) == file) = true
  cell : ∃ cl cld csl, K.lookup cc = some ⟨cl, cld, .cell (some (.ref D)), csl⟩
  fn : ∃ oc od osl, K.lookup fI = some ⟨oc, od, .func fd, osl⟩
  clsD : ∃ cdD, PySem.W.clsIn K D = some cdD
  mro : PySem.W.mroIn K C (.ref D) = some true
  sup : PySem.W.ks_superIn K C D "__init__" = some (some (.builtin "ValueError.__init__"))
  sub : PySem.W.subIn K (.ref C) (.type "ValueError") = some true
  ini : PySem.W.excInitIn K C [.type "ValueError", .type "Exception", .type "BaseException", .type "object"] "ValueError.__new__" = true
  any : PySem.W.nsIn K cStatics "thirdparty.any" = some none
section
variable {prog : Program} {w : World} {A : Around} {E : Value → Shared → Prop} {h h₀ : Heap} {g : Array GenState} {d : Drawn} {t : Nat} {os : OsState}
end
/-- the context behind super().__init__ -/
def cxS (P : Program) (w : World) (K : PySem.W.Frag) (mg : Str → Option Value) (base : Heap) (N : List Str) (qual : Str) (scope : Scope) (f cc : Addr) (cd : Value) (A : Around) (outer : List PySem.Env) (s : Shared) (H : Hp) (E : XK) : Cx where
  prog := P
  w := w
  K := K
  mg := mg
  base := base
  A := A.deeper (PySem.W.ksEnv qual scope s.heap.objs.size f cd cc)
  N := N
  s_0 := s
  H_0 := H
  env := PySem.W.ksEnv qual scope s.heap.objs.size f cd cc
  outer := outer
  stack := PySem.W.ksEnv qual scope s.heap.objs.size f cd cc :: outer
  ex := []
  calm := true
  fn := fun _ => false
  pn := []
  xe := fun e s' => wpAny (model P w) (A.deeper (PySem.W.ksEnv qual scope s.heap.objs.size f cd cc)) (leaving (PySem.W.ksEnv qual scope s.heap.objs.size f cd cc) e) (fun _ s'' => L2.CX P w outer H s E e s'') (fun e' s'' => L2.CX P w outer H s E e' s'') s'
section
variable {P : Program} {w : World} {K : PySem.W.Frag} {mg : Str → Option Value} {base : Heap}
end
/-- what an error's __init__ keeps -/
def spI (C : Addr) (fld : Str) : Sp := fun vs H Q _ => ∃ a y, vs = [.ref a, y] ∧ H a = some (exo a C none) ∧ ∀ dx, H dx = none → dx ≠ a → Q .non (upd (upd H dx (exd dx [(fld, y)])) a (exo a C (some dx)))
section
variable {P : Program} {w : World} {K : PySem.W.Frag} {mg : Str → Option Value} {base : Heap}
end
end DL

set_option maxHeartbeats 4000000
/-! DL27: raise C(e) of an own error; try .. except C as n; n.f in the suite. -/
namespace DL
open PySem PySem.Spec PyProof.Rows L2
variable [TabsT]

/-- raise C(e): the error as data -/
def erV (c f : Str) : List D → SM
  | [x] => SO.er ⟨c, [f], [x]⟩
  | _ => fun _ => .bad
def sRaise (c f : Str) (fs : M (List D)) : SM := sBind fs (erV c f)
section
variable {X : Cx} {W : WX} {np : Nat} {c f : Str} {ex : Expr} {fs : M (List D)} {p pos pos2 : Pos} {fI : Addr} {k : Nat} {fd : FuncData} {ps : List Str}
end

/-! ### except -/
/-- the result that is the same at all addresses -/
noncomputable def uni (f : Addr → Addr → SO) : SO := open Classical in if h : ∃ r, ∀ a d, f a d = r then h.choose else .bad
def offS (i : Nat) (r : SO) : SO := r.mapE fun e => e.set i .no
def noEr : SO → SO
  | .er _ _ => .bad
  | o => o
noncomputable def caughtS (i : Nat) (hd : Addr → Addr → SM) (x : Exn) (e : Env) : SO := noEr (uni fun a d => offS i (hd a d (e.set i (.sh (.exn a d x.ns x.xs)))))
/-- try: .. except C as n: .. (sub tells whether a class is C's) -/
noncomputable def sTryAs (sub : Str → Option Bool) (i : Nat) (fb : SM) (hd : Addr → Addr → SM) : SM := fun e => match fb e with
  | .er x e1 => (match sub x.cls with
    | some true => caughtS i hd x e1
    | some false => .er x e1
    | none => .bad)
  | o => o
/-- the ends of a suite, whose name goes -/
def offE (i : Nat) (D : Ends) : Ends := { nx := fun σ' H' => D.nx (σ'.set i none) H', rt := D.rt, bk := fun σ' H' => D.bk (σ'.set i none) H', ct := fun σ' H' => D.ct (σ'.set i none) H' }
section
variable {X : Cx} {W : WX} {np i : Nat} {c n : Str} {sub : Str → Option Bool} {body suite : List Stmt} {b₀ : Stmt} {pn' pos pos' : Pos} {fb : SM} {hd : Addr → Addr → SM}
end
/-- n.f of a caught error -/
def xfV (a d : Addr) (f : Str) (v : Val) : M Val := fun e => match v with
  | .d (.exn a' d' ns xs) => if a' = a ∧ d' = d then (match (ns.zip xs).lookup f with
    | some y => .ok (.d y) e
    | none => .bad) else .bad
  | _ => .bad
def dXf (a d : Addr) (f : Str) (fe : M Val) : M Val := M.bind fe (xfV a d f)
end DL

set_option maxHeartbeats 4000000
/-! DL41: own errors over KeyError: C(e), super().__init__(text), self.f = y. -/
namespace DL
open PySem PySem.Spec PyProof.Rows L2
open Builtin Builtin.ObjectAttr
variable [TabsT]
abbrev keT : List Value := [.type "KeyError", .type "LookupError", .type "Exception", .type "BaseException", .type "object"]
/-- an own class over KeyError -/
structure OexK (K : PySem.W.Frag) (C : Addr) : Prop where
  init : PySem.W.excInitIn K C keT "LookupError.__new__" = true
  over : PySem.W.excOver K C keT = true
  hd : PySem.W.hasDictIn K C = true
  sa : PySem.W.findIn K (.ref C) "__setattr__" = some (some (.builtin "object.__setattr__"))
  exC : PySem.W.subIn K (.ref C) (.type "BaseException") = some true
  tyC : PySem.W.typeIn K (.ref C) = some (.type "type")
  kC : PySem.W.keepIn K (.ref C) = true
section
variable {Md : Model} {prog : Program} {w : World} {Ar : Around} {E : Value → Shared → Prop} {R : Result → Shared → Prop} {hp : Heap} {g : Array GenState} {dr : Drawn} {tk : Nat} {os : OsState}
variable {nm qn : Str} {C NS : Addr} {bs bm us : List Value} {hdc : Bool} {sn : List Str} {sub : List Value} {ab : Bool} {col : Option Bool} {dd : Option Addr} {j0 j1 j2 j3 j5 : Option Value}
end
section
variable {prog : Program} {w : World} {Ar : Around} {E : Value → Shared → Prop} {s : Shared} {h0 : Heap} {L : Addr} {m : Str → Option Value} {news : List (Addr × Obj)} {K : PySem.W.Frag} {x C u : Addr}
end
end DL

set_option maxHeartbeats 4000000
/-! DL42: __init__ and raising of own errors over KeyError. -/
namespace DL
open PySem PySem.Spec PyProof.Rows L2
open Builtin Builtin.ObjectAttr
variable [TabsT]
structure ErK (P : Program) (K : PySem.W.Frag) (C fI cda cc D : Addr) (fd : FuncData) : Prop where
  code : ∃ ccl cdd vs ccs file tf, K.lookup cda = some ⟨ccl, cdd, .fields vs, ccs⟩ ∧ vs[2]? = some (.str file tf) ∧ ((P.main.file : Str) == file) = true
  cell : ∃ cl cld csl, K.lookup cc = some ⟨cl, cld, .cell (some (.ref D)), csl⟩
  fn : ∃ oc od osl, K.lookup fI = some ⟨oc, od, .func fd, osl⟩
  clsD : ∃ cdD, PySem.W.clsIn K D = some cdD
  mro : PySem.W.mroIn K C (.ref D) = some true
  sup : PySem.W.ks_superIn K C D "__init__" = some (some (.builtin "KeyError.__init__"))
  sub : PySem.W.subIn K (.ref C) (.type "KeyError") = some true
  any : PySem.W.nsIn K cStatics "thirdparty.any" = some none
section
variable {prog : Program} {w : World} {A : Around} {E : Value → Shared → Prop} {h h₀ : Heap} {g : Array GenState} {d : Drawn} {t : Nat} {os : OsState}
end
/-! ### self.f = y -/
section
variable {X : Cx} {pins : List (Addr × Obj)} {σ : L2.St} {H : Hp} {s : Shared} {a C dx : Addr} {f : Str} {y : V} {u : Value} {fs : List (Str × V)} {Q : Unit → Shared → Prop} {E : Value → Shared → Prop} {A : Around}
/-- the reading of self.f = e, the first one -/
def tOsK (K : PySem.W.Frag) (f : Str) (to te : TE) : TS := fun D σ H => te σ H fun y H1 => to σ H1 fun x H2 => ∃ a C : Addr, x = .ref a ∧ OexK K C ∧ PySem.W.findIn K (.ref C) f = some none ∧ H2 a = some (exo a C none) ∧ ∀ dx, H2 dx = none → dx ≠ a → D.nx σ (upd (upd H2 dx (exd dx [(f, y)])) a (exo a C (some dx)))
end
/-! ### C(e) -/
section
variable {X : Cx} {e : Expr} {es : List Expr} {ta : TA} {p pos : Pos}
end
section
variable {P : Program} {w : World} {K : PySem.W.Frag} {mg : Str → Option Value} {base : Heap}
end
section
variable {X : Cx} {W : WX} {np : Nat} {c f : Str} {ex : Expr} {fs : M (List D)} {p pos pos2 : Pos} {fI : Addr} {k : Nat} {fd : FuncData} {ps : List Str}
end
end DL

set_option maxHeartbeats 4000000
/-! DL28: what the written part says of own errors, read off by a Hook. -/
namespace DL
open PySem PySem.Spec PyProof.Rows L2
variable [TabsT]

/-- an own error c that keeps its argument as f: what raising and catching want -/
structure ErOk (P : Program) (w : World) (K : PySem.W.Frag) (mg : Str → Option Value) (base : Heap) (c f : Str) : Prop where
  O : OexC K (He.ga K c) ∨ OexK K (He.ga K c)
  mgc : mg c = some (.ref (He.ga K c))
  iC : PySem.W.findIn K (.ref (He.ga K c)) "__init__" = some (some (.ref (He.ma K (He.ga K c) "__init__")))
  tI : PySem.W.typeIn K (.ref (He.ma K (He.ga K c) "__init__")) = some (.type "function")
  fn : ∃ fd ps, Binds K fd ps [] ∧ L2.FnOk P w K mg base (L2.CX P w) 1 (He.ma K (He.ga K c) "__init__") fd ps (spI (He.ga K c) f)
  xf : XfC K (He.ga K c)
  no : PySem.W.findIn K (.ref (He.ga K c)) f = some none
  sf : PySem.W.mroIn K (He.ga K c) (.ref (He.ga K c)) = some true
section
variable {X : Cx} {W : WX} {np : Nat} {c f : Str} {ex : Expr} {fs : M (List D)} {p pos pos2 : Pos}
end

/-! ### facts -/
def oexB (K : PySem.W.Frag) (C : Addr) : Bool := match K.lookup C with
  | some ⟨.type "type", _, .cls cd, sl⟩ => (match cd.mro, sl.toList with
    | .ref C' :: bm, [_, _, _, _, some (.builtin n), _] => C' == C && (n == "ValueError.__new__" && (!cd.hasDel && (cd.hasDict && PySem.HandSPX.refsVE bm)))
    | _, _ => false)
  | _ => false
/-- one error: its class, field, argument, and its __init__'s text -/
structure ErD where
  c : Str
  f : Str
  arg : Str
  qual : Str
  params : Arguments
  body : List Stmt
  scope : Scope
abbrev ErV : Type := Option (Str × Str × Arguments × FuncBody × Scope × Addr × Addr)
abbrev initA (K : PySem.W.Frag) (c : Str) : Addr := He.ma K (He.ga K c) "__init__"
def erW (K : PySem.W.Frag) (c : Str) : ErV := match K.lookup (initA K c) with
  | some ⟨_, _, .func fd, _⟩ => some (fd.name, fd.qualname, fd.params, fd.body, fd.scope, fd.globals, fd.builtins)
  | _ => none
def ErD.val (d : ErD) : ErV := some ("__init__", d.qual, d.params, .stmts d.body, d.scope, mainGlobals, builtinsNs)
def cellB (K : PySem.W.Frag) (C : Addr) : List (Str × Addr) → Bool
  | [(x, cc)] => x == ("__class__" : Str) && (match K.lookup cc with
    | some ⟨_, _, .cell (some (.ref D)), _⟩ => D == C
    | _ => false)
  | _ => false
def codeB (file : Str) (K : PySem.W.Frag) (qual : Str) : Value → Bool
  | .ref cda => PySem.W.codeIn K (.ref cda) qual && (match K.lookup cda with
    | some ⟨_, _, .fields vs, _⟩ => (match (vs[2]? : Option Value) with
      | some (.str fl _) => file == fl
      | _ => false)
    | _ => false)
  | _ => false
def noneB : Value → Bool
  | .none => true
  | _ => false
def initB (file : Str) (K : PySem.W.Frag) (C : Addr) (a : Addr) (qual : Str) : Bool := match K.lookup a with
  | some ⟨_, _, .func fd, _⟩ => noneB fd.defaults && (cellB K C fd.closure && codeB file K qual fd.code)
  | _ => false
def ErD.okA (file : Str) (K : PySem.W.Frag) (d : ErD) : Bool :=
  initB file K (He.ga K d.c) (initA K d.c) d.qual && (
  decide (PySem.W.findIn K (.ref (He.ga K d.c)) "__setattr__" = some (some (.builtin "object.__setattr__"))) && (
  decide (PySem.W.typeIn K (.ref (He.ga K d.c)) = some (.type "type")) && (
  PySem.W.keepIn K (.ref (He.ga K d.c)) && (
  decide (PySem.W.findIn K (.ref (He.ga K d.c)) "__init__" = some (some (.ref (initA K d.c)))) && (
  decide (PySem.W.typeIn K (.ref (initA K d.c)) = some (.type "function")) && (
  decide (PySem.W.mroIn K (He.ga K d.c) (.ref (He.ga K d.c)) = some true) && (
  decide (PySem.W.nsIn K cStatics "thirdparty.any" = some none) && (
  decide (PySem.W.findIn K (.ref (He.ga K d.c)) d.f = some none) && (
  xfB K (He.ga K d.c) && (
  decide (PySem.W.nsIn K mainGlobals "super" = some none) &&
  decide (PySem.W.nsIn K mainGlobals d.c = some (some (.ref (He.ga K d.c))))))))))))))
/-- over ValueError -/
def ErD.okV (K : PySem.W.Frag) (d : ErD) : Bool :=
  oexB K (He.ga K d.c) && (
  decide (PySem.W.ks_superIn K (He.ga K d.c) (He.ga K d.c) "__init__" = some (some (.builtin "ValueError.__init__"))) && (
  decide (PySem.W.subIn K (.ref (He.ga K d.c)) (.type "ValueError") = some true) &&
  PySem.W.excInitIn K (He.ga K d.c) [.type "ValueError", .type "Exception", .type "BaseException", .type "object"] "ValueError.__new__"))
/-- over KeyError -/
def ErD.okK (K : PySem.W.Frag) (d : ErD) : Bool :=
  PySem.W.excInitIn K (He.ga K d.c) keT "LookupError.__new__" && (
  PySem.W.excOver K (He.ga K d.c) keT && (
  decide (PySem.W.ks_superIn K (He.ga K d.c) (He.ga K d.c) "__init__" = some (some (.builtin "KeyError.__init__"))) &&
  decide (PySem.W.subIn K (.ref (He.ga K d.c)) (.type "KeyError") = some true)))
def ErD.ok (file : Str) (K : PySem.W.Frag) (d : ErD) : Bool := d.okA file K && (d.okV K || d.okK K)
section
variable {P : Program} {w : World} {K : PySem.W.Frag} {mg : Str → Option Value} {h : Heap}
end
end DL

set_option maxHeartbeats 4000000
/-! DL29: a Hook with own errors; calls with keywords in any order behind positional arguments. -/
namespace DL
open PySem PySem.Spec PyProof.Rows L2
variable [TabsT]

/-! ### the Hook -/
abbrev AlX : Type := He.AlD × Bool × List ErV
def obsX (file : Str) (fa : List He.Fa) (fn : List He.DefD) (er : List ErD) (K : PySem.W.Frag) : AlX := (He.obsD fa fn K, er.all (fun d => d.ok file K), er.map fun d => erW K d.c)
def valX (fn : List He.DefD) (er : List ErD) : AlX := (He.valD fn, true, er.map ErD.val)
def SaysX (file : Str) (fa : List He.Fa) (fn : List He.DefD) (er : List ErD) (K : PySem.W.Frag) : Prop := obsX file fa fn er K = valX fn er
def asX (g : Addr → Option Obj) (n : Nat) : List Addr := cStatics :: He.asD g n
def obsXG (file : Str) (n : Nat) (fa : List He.Fa) (fn : List He.DefD) (er : List ErD) (g : Addr → Option Obj) : AlX := obsX file fa fn er (He.frG g (asX g n))
def hookX (file : Str) (n : Nat) (fa : List He.Fa) (fn : List He.DefD) (er : List ErD) : PySem.W.Hook where
  α := AlX
  obs := fun s => obsXG file n fa fn er s.heap.get?
  val := fun _ => valX fn er
  says := fun _ h => ∃ K : PySem.W.Frag, K.In h ∧ SaysX file fa fn er K
  of := fun _ _ e => ⟨_, He.frG_in, e⟩
  keeps := fun _ _ _ ⟨K, hK, c⟩ k => ⟨K, PySem.W.Frag.In.keeps hK k, c⟩
theorem obsXG_eq {file : Str} {n : Nat} {fa : List He.Fa} {fn : List He.DefD} {er : List ErD} {g : Addr → Option Obj} {s : Shared} (h : ∀ a, g a = s.heap.get? a) : obsXG file n fa fn er g = (hookX file n fa fn er).obs s := by
  have e : g = s.heap.get? := funext h
  rw [e] <;> rfl
section
variable {file : Str} {fa : List He.Fa} {fn : List He.DefD} {ers : List ErD} {K : PySem.W.Frag}
theorem SaysX.d (c : SaysX file fa fn ers K) : He.SaysD fa fn K := congrArg (fun z : AlX => z.1) c
end

/-! ### keywords -/
def permL {α : Type} (perm : List Nat) (us : List α) : List α := perm.filterMap (us[·]?)
/-- values looked at again -/
def fixVs : List Val → M (List Val)
  | [] => M.ret []
  | v :: vs => M.bind (fixV v) fun v => M.bind (fixVs vs) fun vs => M.ret (v :: vs)
/-- how p positional arguments and the keywords ks are bound, the defaults ds behind them -/
def KwB (K : PySem.W.Frag) (fd : FuncData) (ps : List Str) (p : Nat) (ks : List Str) (perm : List Nat) (ds : List Value) : Prop :=
  ∀ (s : Shared) (us zs : List Value), K.In s.heap → us.length = p → zs.length = ks.length → BindsTo s fd ⟨us, ks.zip zs⟩ (ps.zip (permL perm (us ++ zs ++ ds)))
structure CalleeP (P : Program) (w : World) (K : PySem.W.Frag) (mg : Str → Option Value) (base : Heap) (x : Str) (k : Nat) (ps : List Str) (F : M Val) (p : Nat) (ks : List Str) (perm : List Nat) (dfl : List D) : Prop where
  ex : ∃ fd dvs ds, mg x = some (.ref (He.ga K x)) ∧ PySem.W.keepIn K (.ref (He.ga K x)) = true ∧ Vals dvs ds ∧ (∀ S, RepL K S dfl dvs) ∧ KwB K fd ps p ks perm ds ∧ DFn P w K mg base k (He.ga K x) fd ps F
def callP (F : M Val) (p q : Nat) (perm : List Nat) (dfl : List D) (xs ys : List Val) : M Val := fun e => if xs.length = p ∧ ys.length = q then callV F [] (permL perm (xs ++ ys ++ dfl.map .d)) e else .bad
def dFnP (F : M Val) (p q : Nat) (perm : List Nat) (dfl : List D) (fs gs : M (List Val)) : M Val := M.bind fs fun xs => M.bind gs fun ys => M.bind (fixVs xs) fun xs => callP F p q perm dfl xs ys
section
variable {X : Cx} {W : WX} {pos pp : Pos} {ex : Expr} {es : List Expr} {kws : List Keyword} {fs gs : M (List Val)} {F : M Val} {x : Str} {k p : Nat} {ps ks : List Str} {perm : List Nat} {dfl : List D}
end
end DL

set_option maxHeartbeats 4000000
/-! DL30: > of alike data; name += e; the order of number tuples. -/
namespace DL
open PySem PySem.Spec PyProof.Rows L2
variable [TabsT]

def rGtD (K : PySem.W.Frag) : R2 := fun x y H Q => ∃ a b, Dp K H x a ∧ Dp K H y b ∧ PySem.W.alike a b = true ∧ a ≠ .none ∧ min a.depth b.depth ≤ 60 ∧ Q (.bl (PySem.W.dataLt b a)) H
def someP : PyData → Bool
  | .none => false
  | _ => true
def gtOk (a b : D) : Bool := okN 60 a && okN 60 b && PySem.W.alike (pd a) (pd b) && someP (pd a)
def gtB (a b : D) : Bool := PySem.W.dataLt (pd b) (pd a)
abbrev gtV2 := boolV gtOk gtB
/-- the order of number tuples -/
def ltI : List Int → List Int → Bool
  | [], [] => false
  | [], _ :: _ => true
  | _ :: _, [] => false
  | x :: xs, y :: ys => if x = y then ltI xs ys else decide (x < y)
theorem pdL_ints : ∀ xs : List Int, pdL (xs.map D.int) = xs.map PyData.int
  | [] => rfl
  | x :: xs => by
    show pd (.int x) :: pdL (xs.map D.int) = _
    rw [pdL_ints xs]
    rfl
/-! ### name += e, of numbers -/
def addTo (i : Nat) (a : Int) (v : Val) : SM := fun e => match v with
  | .d (.int b) => .nx (e.set i (.sh (.int (a + b))))
  | _ => .bad
def sAug (i : Nat) (fe : M Val) : SM := fun e => match e[i]? with
  | some (.sh (.int a)) => sBind fe (addTo i a) e
  | _ => .bad
section
variable {X : Cx} {W : WX} {np i : Nat} {x : Str} {ex : Expr} {fe : M Val} {pos pos' : Pos}
end
/-! ### one class caught -/
def subOne (c : Str) : Str → Option Bool := fun s => if s = c then some true else none
section
variable {P : Program} {w : World} {K : PySem.W.Frag} {mg : Str → Option Value} {base : Heap} {c f : Str}
end
end DL

set_option maxHeartbeats 4000000
/-! DL31: one argument, handed over as it is (list of a new dict). -/
namespace DL
open PySem PySem.Spec PyProof.Rows L2
variable [TabsT]
/-- where nothing is told: no tables -/
instance (priority := low) tabsNone : TabsT := ⟨[]⟩
def aOne (f : M Val) : M (List Val) := M.bind f fun v => M.ret [v]
section
variable {X : Cx} {W : WX} {ex : Expr} {f : M Val}
theorem da_one (h : DE X W ex f) (hp : starEach [ex] X.env = (false, eval ex X.env) :: starEach [] X.env := by rfl) : DA X W [ex] (aOne f) := ⟨PA.weak (pa_cons h.pe pa_nil hp) fun σ H Q ⟨S, e, A, g⟩ => by
  refine tDx.step A Ext.refl g fun v e1 H1 S1 w1 A1 E1 _ v1 g1 => ?_
  exact g1 H1 S1 [w1] A1 E1 (.cons v1 .nil)⟩
end
end DL

set_option maxHeartbeats 4000000
/-! DL32: try with several clauses, each with a name or without one. -/
namespace DL
open PySem PySem.Spec PyProof.Rows L2
variable [TabsT]
/-- a clause: its class, its name's slot, its suite's reading -/
structure Clause where
  c : Value
  i : Option Nat
  ts : Addr → Value → Option Addr → TS
def endsO (i : Option Nat) (D : Ends) : Ends := match i with
  | none => D
  | some i => offE i D
def slotO (i : Option Nat) (a : Addr) (σ : St) : St := match i with
  | none => σ
  | some i => σ.set i (some (.ref a))
/-- what the clauses want of an error, the first one first -/
def wCl (K : PySem.W.Frag) (Wo : WX) (D : Ends) : List Clause → WX
  | [] => Wo
  | q :: r => fun cls d σ H => ∃ b, PySem.W.exmOne K cls q.c = some b ∧ (b = true → ∀ a, H a = none → q.ts a cls d (endsO q.i D) (slotO q.i a σ) H) ∧ (b = false → wCl K Wo D r cls d σ H)
def nameOk (X : Cx) : Option Nat → Option Str → Prop
  | none, none => True
  | some i, some n => X.N[i]? = some n ∧ X.env.kindOf n = some .local
  | _, _ => False
inductive ClsOk (X : Cx) : List ExceptHandler → List Clause → Prop
  | nil : ClsOk X [] []
  | cons {x : Str} {nm : Option Str} {q : Clause} {st0 : Stmt} {sts : List Stmt} {np ps : Pos} {hs : List ExceptHandler} {l : List Clause} (hc : Names X x q.c) (hi : nameOk X q.i nm)
      (go : ∀ (a : Addr) (oe : Obj) (cls : Value) (d : Option Addr) (pn : List (Addr × Obj)), Zc cls d oe → (∃ vs, oe.data = .fields vs) → PSs (X.suite a ((a, oe) :: pn)) (st0 :: sts) (q.ts a cls d)) (t : ClsOk X hs l) :
      ClsOk X (.ExceptHandler (some (.Name x np)) nm (st0 :: sts) ps :: hs) (q :: l)
section
variable {X : Cx} {body : List Stmt} {h0 : ExceptHandler} {hs : List ExceptHandler} {l : List Clause} {pos : Pos} {tb : WX → TS} {Wo : WX}
def Behind (X : Cx) (ps : Pos) (R : Shared → Prop) (t6 : Shared) : Option Str → Prop
  | none => R t6
  | some n => wpAny (model X.prog X.w) X.A (do bindName X.env n .none; unbindBehindTheSuite X.env n ps) (fun _ t7 => R t7) X.xe t6
end
end DL

set_option maxHeartbeats 4000000
/-! DL33: x(lambda: e), where x calls what it got within a try. -/
namespace DL
open PySem PySem.Spec PyProof.Rows L2
variable [TabsT]
/-- a clause of the def that calls what it got: does it take a class, its name's slot, its suite -/
structure HdM where
  sub : Str → Option Bool
  i : Option Nat
  hd : Addr → Addr → SM
/-- the first clause that takes the class; none: it can't be told -/
def pickH : List HdM → Str → Option HdM
  | [], _ => none
  | q :: r, c => match q.sub c with
    | some true => some q
    | some false => pickH r c
    | none => none
def offO (i : Option Nat) (r : SO) : SO := match i with
  | none => r
  | some i => offS i r
def setO (i : Option Nat) (s : SV) (e : Env) : Env := match i with
  | none => e
  | some i => e.set i s
noncomputable def catchR (N : Nat) (q : HdM) (x : Exn) : SO := uni fun a d => offO q.i (q.hd a d (setO q.i (.sh (.exn a d x.ns x.xs)) (List.replicate N .no)))
/-- what the def hands back, its caller's names as they were -/
def finR (r : SO) (e1 : Env) : Out Val := match r with
  | .rt (.d x) _ => .ok (.d x) e1
  | .rt (.new o) _ => .ok (.new o) e1
  | .nx _ => .ok (.d .non) e1
  | _ => .bad
def onlyRt : SO → SO
  | .rt v e => .rt v e
  | _ => .bad
/-- a call's outcome, heard -/
noncomputable def heardO (N : Nat) (hs : List HdM) (x : Exn) (e1 : Env) : Out Val := match pickH hs x.cls with
  | some q => finR (onlyRt (catchR N q x)) e1
  | none => .bad
/-- x(lambda: e): x's body is try: a() except ..; rest -/
noncomputable def dLam (N : Nat) (hs : List HdM) (rest : SM) (fe : M Val) : M Val := fun e => match fe e with
  | .bad => .bad
  | .ok _ e1 => finR (rest (List.replicate N .no)) e1
  | .er x e1 => heardO N hs x e1
section
variable {K : PySem.W.Frag} {σ σg σg' : St} {H S H2 S2 : Hp} {e eg eg' : Env}
def noOwn (e : Env) : Prop := ∀ (i : Nat) (s : SV), e[i]? = some s → isHad s = false
theorem noOwn.not (h : noOwn eg) {k : Nat} {b : Addr} : ¬ Own k σg eg b := fun ⟨i, s, _, h1, h2, _⟩ => by
  have := h i s h1
  rw [owf_ h2] at this
  cases this
end
/-- a clause's reading -/
def clOf (K : PySem.W.Frag) (cv : Value) (q : HdM) : Clause := ⟨cv, q.i, fun a cls d D σ H => ∃ c' dd, cls = .ref (He.ga K c') ∧ d = some dd ∧ q.sub c' = some true ∧ tDs K noW 1 (q.hd a dd) D σ H⟩
inductive HdsM (Z : Cx) : List ExceptHandler → List HdM → List Clause → Prop
  | nil : HdsM Z [] [] []
  | cons {x : Str} {nm : Option Str} {q : HdM} {cv : Value} {st0 : Stmt} {sts : List Stmt} {np ps : Pos} {hs : List ExceptHandler} {qs : List HdM} {l : List Clause} (hc : Names Z x cv) (hi : nameOk Z q.i nm)
      (hsub : ∀ c' b, q.sub c' = some b → PySem.W.exmOne Z.K (.ref (He.ga Z.K c')) cv = some b)
      (go : ∀ (a d : Addr) (oe : Obj) (pn : List (Addr × Obj)) (c' : Str), q.sub c' = some true → Zc (.ref (He.ga Z.K c')) (some d) oe → (∃ vs, oe.data = .fields vs) → DSs (Z.suite a ((a, oe) :: pn)) noW 1 (st0 :: sts) (q.hd a d)) (t : HdsM Z hs qs l) :
      HdsM Z (.ExceptHandler (some (.Name x np)) nm (st0 :: sts) ps :: hs) (q :: qs) (clOf Z.K cv q :: l)
theorem HdsM.ok {Z : Cx} {hs : List ExceptHandler} {qs : List HdM} {l : List Clause} (h : HdsM Z hs qs l) : ClsOk Z hs l := by
  induction h with
  | nil => exact .nil
  | @cons x nm q cv st0 sts np ps hs qs l hc hi hsub go t ih =>
    refine .cons hc hi (fun a oe cls d pn hz hf => ⟨fun pins s σ H D I w => ?_⟩) ih
    obtain ⟨c', dd, rfl, rfl, h1, h2⟩ := w
    exact (go a dd oe pn c' h1 hz hf).pss.run pins s σ H D I h2
section
variable {K : PySem.W.Frag} {W : WX} {σ : St} {H S H0 S0 : Hp} {e0 e1 : Env} {Q : VK}
end
end DL

set_option maxHeartbeats 4000000
/-! DL34: the call of a lambda from the def that got it; x(lambda: e) as a meaning. -/
namespace DL
open PySem PySem.Spec PyProof.Rows L2
variable [TabsT]
/-- what a lambda's making leaves of the heap: its maker's table grows, one code object is new -/
structure Made (T : List (Addr × Str)) (H H1 : Hp) : Prop where
  ext : LamX.ExtN H H1
  none : ∀ b, H1 b = none → H b = none
  tbl : ∀ b ps, H1 b = some (.tbl ps) → (∃ ps', H b = some (.tbl ps')) ∨ ∃ q, (b, q) ∈ T
section
variable {X : Cx} {pins : List (Addr × Obj)} {σ : L2.St} {H : Hp} {t : Shared}
/-- the reading of x(lambda: e) -/
def tHear (T : List (Addr × Str)) (TT : (XK → Hp → VK → Prop) → Hp → VK → Prop) (tb : XK → TE) : TE := fun σ H Q => LamX.Tabs T H ∧ ∀ H1, Made T H H1 → LamX.Tabs T H1 → TT (fun E H' Q' => tb E σ H' Q') H1 Q
end
section
variable {X : Cx} {pins : List (Addr × Obj)} {σ : L2.St} {H : Hp} {t : Shared}
end
/-! ### the def that hears -/
/-- its frame's context -/
abbrev hearCx (P : Program) (w : World) (K : PySem.W.Frag) (mg : Str → Option Value) (base : Heap) (Ng : List Str) (x : Str) (sg : Scope) (g : Addr) (cdv : Value) (A : Around) (outer : List PySem.Env) (t : Shared) (H : Hp) : Cx := (cxOf C8.CX0 P w K mg base Ng x sg g cdv A outer t H C8.E0).nox
def endQ (Q : VK) : Ends := { nx := fun _ H' => Q .non H', rt := Q }
/-- its reading, from what the lambda's call brings -/
def TTL (K : PySem.W.Frag) (Ng : List Str) (l : List Clause) (rest : SM) : (XK → Hp → VK → Prop) → Hp → VK → Prop := fun tl H Q =>
  tl (fun cls d H' => ∀ σ' : L2.St, σ'.length = Ng.length → wCl K noW { nx := fun σ2 H2 => tDs K noW 1 rest (endQ Q) σ2 H2, rt := Q } l cls d σ' H') H
    fun _ H' => ∀ σ' : L2.St, σ'.length = Ng.length → tDs K noW 1 rest (endQ Q) σ' H'
end DL
namespace DL
open PySem PySem.Spec PyProof.Rows L2
variable [TabsT]
/-- a def that calls what it got within a try -/
structure CatchF (P : Program) (w : World) (K : PySem.W.Frag) (mg : Str → Option Value) (base : Heap) (x : Str) (k : Nat) (a : Str) (N : Nat) (qs : List HdM) (rest : SM) : Prop where
  ex : ∃ (Ng : List Str) (pg : Arguments) (sg : Scope) (dV kV doc mo cdv ct oc : Value) (an od : Option Addr) (osl : Array (Option Value)) (l : List Clause) (h0 : ExceptHandler) (hs : List ExceptHandler) (rs : List Stmt) (p1 p2 p3 p4 : Pos),
    Ng.length = N ∧ mg x = some (.ref (He.ga K x)) ∧ PySem.W.keepIn K (.ref (He.ga K x)) = true ∧
    K.lookup (He.ga K x) = some ⟨oc, od, .func (PySem.W.fnOf x x pg (.Try [.Expr (.Call (.Name a p1) [] [] p2) p3] (h0 :: hs) [] [] p4 :: rs) sg dV kV doc mo an cdv ct), osl⟩ ∧ PySem.W.codeIn K cdv x = true ∧
    L2.Binds K (PySem.W.fnOf x x pg (.Try [.Expr (.Call (.Name a p1) [] [] p2) p3] (h0 :: hs) [] [] p4 :: rs) sg dV kV doc mo an cdv ct) [a] [] ∧ FnScope Ng [a] sg ∧ Ng[0]? = some a ∧ Vis sg a ∧ (∀ q ∈ qs, ∀ i, q.i = some i → 1 ≤ i) ∧
    (∀ (A : Around) (outer : List PySem.Env) (t : Shared) (H : Hp), Room k (A.deeper (envOfC x sg t.heap.objs.size (He.ga K x) cdv)) → HdsM (hearCx P w K mg base Ng x sg (He.ga K x) cdv A outer t H) (h0 :: hs) qs l ∧ DSs (hearCx P w K mg base Ng x sg (He.ga K x) cdv A outer t H) noW 1 rs rest)
/-- what is known of the code object of the def in whose frame lambdas are made -/
def LamAt (K : PySem.W.Frag) (mg : Str → Option Value) (base : Heap) (cdv : Value) (q : Str) : Prop := ∃ c P, cdv = .ref c ∧ LamX.TabB base mg c P ∧ (P, q) ∈ TabsT.T ∧ ∀ r ∈ TabsT.T, r.1 = P → r.2 = q
section
variable {X : Cx} {W : WX} {x a : Str} {k k0 N : Nat} {qs : List HdM} {rest : SM} {pars : Arguments} {bd : Expr} {sc : Scope} {fe : M Val} {p lp pos : Pos}
end
end DL

set_option maxHeartbeats 4000000
/-! DL35: the law's call where code objects' tables grow; isinstance of what was caught; a Hook with tables. -/
namespace DL
open PySem PySem.Spec PyProof.Rows L2
/-- an empty table -/
abbrev tab0 : Obj := { cls := .none, data := .fields #[] }
/-- the heap that the law starts from: empty tables, and the script, if the written part has it not -/
def hp0 (K : PySem.W.Frag) (a : Addr) (ob : Obj) (ns : List Int) (ts : List Addr) : Hp := fun b => if b ∈ ts then some (.tbl #[]) else if b = a ∧ K.lookup a = none then some (.frz ob (.lst (ns.map V.int))) else none
section
variable {K : PySem.W.Frag} {a b : Addr} {ob : Obj} {ns : List Int} {ts : List Addr}
end
end DL
namespace DL
open PySem PySem.Spec PyProof.Rows L2
variable [TabsT]
/-! ### isinstance of what was caught -/
/-- isinstance(e, c), e what the suite holds, its dict at d -/
def rIsX (K : PySem.W.Frag) (D a d : Addr) (b : Bool) : List V → Hp → VK → Prop := fun xs H Q => ∃ (c : V) (cv : Value) (fs : List (Str × V)), xs = [.ref a, c] ∧ H d = some (.xd fs) ∧ (∀ u, RelV c u → u = cv) ∧ PySem.W.kitOne K (.ref D) cv = some b ∧ Q (.bl b) H
def sameC : D → D → Bool
  | .cls x, .cls y => x == y
  | .ty x, .ty y => x == y
  | _, _ => false
/-- isinstance(e, c) -/
def isXop (a d : Addr) (b : Bool) (c : D) (vs : List Val) : M Val := fun e => match vs with
  | [.d (.exn a' d' _ _), .d c'] => if a' = a ∧ d' = d ∧ sameC c c' = true then .ok (.d (.bl b)) e else .bad
  | _ => .bad
/-- the class c as a value -/
def clsV (K : PySem.W.Frag) : D → Value
  | .cls x => .ref (He.ga K x)
  | .ty x => .type x
  | _ => .none
section
variable {X : Cx} {W : WX} {x : Str} {p : Pos}
end
/-! ### which classes a clause takes, read off -/
def subT (tbl : List (Str × Bool)) : Str → Option Bool := fun c => tbl.lookup c
/-! ### a Hook with tables and one more Bool -/
structure SaysL (file : Str) (fa : List He.Fa) (fn : List He.DefD) (er : List ErD) (tf : List He.Defn) (ex : PySem.W.Frag → Bool) (h : Heap) (K : PySem.W.Frag) : Prop where
  x : SaysX file fa fn er K
  more : ex K = true
  hd : ∀ p ∈ tf, PySem.W.codeHdIn K (He.cT K p).1 (He.cT K p).2 = true
  out : ∀ p ∈ tf, K.lookup (He.cT K p).2 = none
  empty : ∀ p ∈ tf, h.get? (He.cT K p).2 = some tab0
abbrev AlL : Type := AlX × Bool
def obsL (file : Str) (n : Nat) (fa : List He.Fa) (fn : List He.DefD) (er : List ErD) (tf : List He.Defn) (ex : PySem.W.Frag → Bool) (g : Addr → Option Obj) : AlL := (obsX file fa fn er (He.frT g (asX g n)), ex (He.frT g (asX g n)) && He.tabsB g tf (He.frT g (asX g n)))
def hookL (file : Str) (n : Nat) (fa : List He.Fa) (fn : List He.DefD) (er : List ErD) (tf : List He.Defn) (ex : PySem.W.Frag → Bool) : PySem.W.Hook where
  α := AlL
  obs := fun s => obsL file n fa fn er tf ex s.heap.get?
  val := fun _ => (valX fn er, true)
  says := fun _ h => ∃ K : PySem.W.Frag, K.In h ∧ SaysL file fa fn er tf ex h K
  of := fun _ s e => by
    obtain ⟨e1, e2⟩ := Prod.mk.inj (show (_, _) = (_, _) from e)
    obtain ⟨m1, m2⟩ := Bool.and_eq_true_iff.mp e2
    have each : ∀ p ∈ tf, PySem.W.codeHdIn (He.frT s.heap.get? (asX s.heap.get? n)) (He.cT (He.frT s.heap.get? (asX s.heap.get? n)) p).1 (He.cT (He.frT s.heap.get? (asX s.heap.get? n)) p).2 = true ∧ ∃ o, s.heap.get? (He.cT (He.frT s.heap.get? (asX s.heap.get? n)) p).2 = some o ∧ He.emptyTab o = true := fun p hp => by
      obtain ⟨k1, k2⟩ := Bool.and_eq_true_iff.mp (List.all_eq_true.mp m2 p hp)
      refine ⟨k1, ?_⟩
      cases q : s.heap.get? (He.cT (He.frT s.heap.get? (asX s.heap.get? n)) p).2 with
      | none => rw [q] at k2; cases k2
      | some o => rw [q] at k2; exact ⟨o, rfl, k2⟩
    exact ⟨He.frT s.heap.get? (asX s.heap.get? n), He.frT_in, e1, m1, fun p hp => (each p hp).1, fun p hp => let ⟨_, _, q, z⟩ := each p hp; He.frT_none q z, fun p hp => let ⟨_, _, q, z⟩ := each p hp; by rw [q, He.emptyTab_eq z]⟩
  keeps := fun _ _ _ ⟨K, hK, c⟩ k => ⟨K, PySem.W.Frag.In.keeps hK k, c.x, c.more, c.hd, c.out, fun p hp => k _ _ (c.empty p hp)⟩
/-! ### the walk -/
theorem repL_intsV {K : PySem.W.Frag} {H : Hp} : ∀ ns : List Int, RepL K H (ns.map D.int) (ns.map V.int)
  | [] => .nil
  | n :: ns => .cons (rep_int.mpr rfl) (repL_intsV ns)
end DL
namespace DL
open PySem PySem.Spec PyProof.Rows L2
variable [TabsT]
/-! ### facts, as Booleans -/
def excB (K : PySem.W.Frag) (c : Str) : Bool :=
  decide (PySem.W.findIn K (.ref (He.ga K c)) "__getattribute__" = some (some (.builtin "BaseException.__getattribute__"))) && (decide (PySem.W.findIn K (.ref (He.ga K c)) "__getattr__" = some none) &&
  (decide (PySem.W.subIn K (.ref (He.ga K c)) (.type "BaseException") = some true) && (PySem.W.hasDictIn K (He.ga K c) && (decide (PySem.W.findIn K (.ref (He.ga K c)) "__class__" = some (some (.builtin "object.__class__"))) &&
  (decide (PySem.W.specialIn K (.builtin "object.__class__") "__get__" = some (some (.builtin "getset_descriptor.__get__"))) && (decide (PySem.W.takesIn K (.builtin "object.__class__") = some true) && decide (PySem.W.mroIn K (He.ga K c) (.type "object") = some true)))))))
/-- a clause of class k: what it takes of the told classes -/
def takB (K : PySem.W.Frag) (k : Str) (tbl : List (Str × Bool)) : Bool := tbl.all fun p => decide (PySem.W.exmOne K (.ref (He.ga K p.1)) (.ref (He.ga K k)) = some p.2)
/-- isinstance of an instance of k -/
def isiB (K : PySem.W.Frag) (k : Str) (c : D) (b : Bool) : Bool := decide (PySem.W.kitOne K (.ref (He.ga K k)) (clsV K c) = some b)
/-- where the def at f makes lambdas -/
def LamM (K : PySem.W.Frag) (mg : Str → Option Value) (base : Heap) (f : Addr) (q : Str) : Prop := ∀ cdv, CodeAt K f cdv → LamAt K mg base cdv q
end DL

set_option maxHeartbeats 4000000
/-! DL36: own dicts written (d[k] = v) and walked over in a comprehension. -/
namespace DL
open PySem PySem.Spec PyProof.Rows L2
variable [TabsT]

/-! ### d[k] = v -/
def storeV2 (t : Val) (d : D) (j : Val) : SM := fun e => match t, j with
  | .at_ i, .d x => (match e[i]? with
    | some (.ow (.dct b kvs)) => if keyOk b x = true ∧ kvs.length < sizeLine then .nx (e.set i (.ow (.dct b (putD b kvs x d)))) else .bad
    | _ => .bad)
  | _, _ => .bad
def sSubK (fe fo fi : M Val) : SM := sBind fe fun v => sBind (frz v) fun d => sBind fo fun t => sBind fi fun j => storeV2 t d j
section
variable {X : Cx} {W : WX} {np : Nat} {pos tpos : Pos} {ex o i : Expr} {fe fo fi : M Val}
end

/-! ### an own dict, locked: its slot is put away -/
section
variable {K : PySem.W.Frag} {σ σ' : St} {H S H' S' : Hp} {e e' : Env} {i : Nat} {a : Addr} {b : Bool} {kvs : List (D × D)} {u : HO} {od : Obj}
end

/-! ### [.. for k in d if ..] -/
def dCompK (i : Nat) (vs : List Nat) (g : TF) (t : M Bool) (fe : M Val) : M Val := fun e => match e[i]? with
  | some (.ow (.dct b kvs)) => (match compLoop vs g t (M.bind fe frz) (kvs.map (·.1)) [] (wipeE (e.set i .no) vs) with
    | .ok xs e' => .ok (.new (.lst xs)) (e'.set i (.ow (.dct b kvs)))
    | _ => .bad)
  | _ => .bad
section
variable {K : PySem.W.Frag} {W : WX} {i : Nat} {vs : List Nat} {g : TF} {t : M Bool} {fe : M Val} {σ : St} {H : Hp} {Q : VK}
end
section
variable {X : Cx} {W : WX} {pos p : Pos} {elt tg : Expr} {ifs : List Expr} {scope : Scope} {own : List (Str × Nat)} {g : TF} {t : M Bool} {fe : M Val} {x : Str}
end
end DL
namespace DLc
open PyProof.Rows HT L2
open PySem
/-! ### name += t, of tuples -/
section
variable {prog : Program} {w : World} {A : Around} {E : Value → Shared → Prop} {s : Shared}
end
end DLc
namespace DL
open PySem PySem.Spec PyProof.Rows L2
variable [TabsT]
def catTo (i : Nat) (xs : List D) (v : Val) : SM := fun e => match vwD e v with
  | some (.tup ys) => if xs.length + ys.length ≤ sizeLine then .nx (e.set i (.sh (.tup (xs ++ ys)))) else .bad
  | _ => .bad
def sAugT (i : Nat) (fe : M Val) : SM := fun e => match e[i]? with
  | some (.sh (.tup xs)) => sBind fe (catTo i xs) e
  | _ => .bad
section
variable {X : Cx} {W : WX} {np i : Nat} {x : Str} {ex : Expr} {fe : M Val} {pos pos' : Pos}
end
end DL

set_option maxHeartbeats 4000000
/-! DL37: sorted(t) of a tuple. -/
namespace DLc
open PySem PyProof.Rows HT L2 PySem.W PySem.SeqAt
section
variable {prog : Program} {w : World} {A : Around} {E : Value → Shared → Prop} {s : Shared}
end
end DLc
namespace DL
open PySem PySem.Spec PyProof.Rows L2
variable [TabsT]
def rSortDT (K : PySem.W.Frag) : List V → Hp → VK → Prop := fun vs H Q => ∃ (a : Addr) (bs : List (V × D)), vs = [V.ref a] ∧ SqT K H a (bs.map (·.1)) ∧ (∀ b ∈ bs, Dp K H b.1 (pd b.2) ∧ (pd b.2).depth ≤ 60) ∧ alikeB (bs.map fun b => pd b.2) = true ∧ sortE (bs.map fun b => pd b.2) = true ∧
  ∀ p, H p = none → Q (.ref p) (upd H p (.lst ((bs.mergeSort (PySem.W.dataLe false fun b => pd b.2)).map (·.1))))
section
open PySem.W PySem.SeqAt
end
def sortT2 (vs : List Val) : M Val := fun e => match vs with
  | [v] => (match vwD e v with
    | some (.tup xs) => if sortOk xs = true then .ok (.new (.lst (sortD xs))) e else .bad
    | _ => .bad)
  | _ => .bad
end DL

set_option maxHeartbeats 4000000
/-! DL38: xs * n: lists, tuples, texts. -/
namespace DLc
open PySem PyProof.Rows L2
end DLc
namespace DL
open PySem PySem.Spec PyProof.Rows L2
variable [TabsT]
def rRepD (K : PySem.W.Frag) : R2 := fun x y H Q => ∃ l k xs, x = .ref l ∧ y = .int k ∧ SqT K H l xs ∧ xs ≠ [] ∧ 0 ≤ k ∧ k ≤ 1000 ∧ xs.length ≤ 1000 ∧ (k = 1 → Q (.ref l) H) ∧ (k ≠ 1 → ∀ p, H p = none → Q (.ref p) (upd H p (.tup (List.replicate k.toNat xs).flatten)))
def rMulS : R2 := fun x y H Q => ∃ (z : Str) (k : Int), x = .str z ∧ y = .int k ∧ MulOk z k ∧ Q (.str (Txt.mul z k)) H
def repOkD (k : Int) (xs : List D) : Bool := decide (0 ≤ k) && decide (k ≤ 1000) && decide (xs.length ≤ 1000) && !xs.isEmpty
instance {z : Str} {k : Int} : Decidable (MulOk z k) := by unfold MulOk; infer_instance
def mulR (v u : Val) : M Val := fun e => match vwD e v, vwD e u with
  | some (.lst xs), some (.int k) => if repOkD k xs = true then .ok (.new (.lst (List.replicate k.toNat xs).flatten)) e else .bad
  | some (.tup xs), some (.int k) => if repOkD k xs = true then .ok (.d (.tup (List.replicate k.toNat xs).flatten)) e else .bad
  | some (.str z), some (.int k) => if MulOk z k then .ok (.d (.str (Txt.mul z k))) e else .bad
  | _, _ => .bad
def rMulR (K : PySem.W.Frag) : R2 := fun x y H Q => rRep x y H Q ∨ rRepD K x y H Q ∨ rMulS x y H Q
end DL

set_option maxHeartbeats 4000000
/-! DL39: walks over reversed(t), t a tuple. -/
namespace DL
open PySem PySem.Spec PyProof.Rows L2
variable [TabsT]
def revSeq (v : Val) : M (List D × Option Nat) := fun e => match vwD e v with
  | some (.tup xs) => .ok (xs.reverse, none) e
  | _ => .bad
section
variable {X : Cx} {W : WX} {tg : Expr}
end
end DL

set_option maxHeartbeats 4000000
/-! DL40: min(xs) of a list of alike data. -/
namespace DL
open PySem PySem.Spec PyProof.Rows L2
variable [TabsT]
/-- data without lists that are read alone: known by what is told of it -/
def flatN : Nat → D → Bool
  | _, .non => true
  | _, .bl _ => true
  | _, .int _ => true
  | _, .str _ => true
  | n + 1, .tup xs => xs.all (flatN n)
  | n + 1, .lst xs => xs.all (flatN n)
  | _, _ => false
end DL
namespace DL
open PySem PySem.Spec PyProof.Rows L2
variable [TabsT]
def minDD (x : D) (xs : List D) : D := xs.foldl (fun a y => if PySem.W.dataLt (pd y) (pd a) then y else a) x
def rMinD (K : PySem.W.Frag) : List V → Hp → VK → Prop := fun vs H Q => ∃ (a : Addr) (b0 : V × D) (bs : List (V × D)), vs = [V.ref a] ∧ SqL K H a ((b0 :: bs).map (·.1)) ∧ (∀ b ∈ b0 :: bs, Dp K H b.1 (pd b.2) ∧ (pd b.2).depth ≤ 60) ∧ alikeB ((b0 :: bs).map fun b => pd b.2) = true ∧ (∀ b ∈ b0 :: bs, pd b.2 ≠ .none) ∧
  ∀ b ∈ b0 :: bs, pd b.2 = PySem.W.minD (pd b0.2) (bs.map fun b => pd b.2) → Q b.1 H
section
open PySem.W PySem.SeqAt
end
def notNon : D → Bool
  | .non => false
  | _ => true
def minC (vs : List Val) : M Val := fun e => match vs with
  | [v] => (match vwD e v with
    | some (.lst (x :: xs)) => if ((x :: xs).all (okN 60) && (alikeB ((x :: xs).map pd) && ((x :: xs).all (flatN 60) && (x :: xs).all notNon))) = true then .ok (.d (minDD x xs)) e else .bad
    | _ => .bad)
  | _ => .bad
end DL
namespace DL
open PySem PySem.Spec PyProof.Rows L2
variable [TabsT]
/-! ### < of alike data -/
def rLtD (K : PySem.W.Frag) : R2 := fun x y H Q => ∃ a b, Dp K H x a ∧ Dp K H y b ∧ PySem.W.alike a b = true ∧ a ≠ .none ∧ min a.depth b.depth ≤ 60 ∧ Q (.bl (PySem.W.dataLt a b)) H
def ltB (a b : D) : Bool := PySem.W.dataLt (pd a) (pd b)
abbrev ltV2 := boolV gtOk ltB
end DL

set_option maxHeartbeats 4000000
/-! DL43: defs as values (their names, as data), called by a variable. -/
namespace DL
open PySem PySem.Spec PyProof.Rows L2
variable [TabsT]
section
variable {P : Program} {w : World} {K : PySem.W.Frag} {mg : Str → Option Value} {base : Heap}
theorem Callee.mono {x : Str} {j k : Nat} {ps : List Str} {F : M Val} (C : Callee P w K mg base x j ps F) (h : j ≤ k) : Callee P w K mg base x k ps F := by
  obtain ⟨fd, h1, h2, h3, G⟩ := C.ex
  exact ⟨fd, h1, h2, h3, ⟨G.len, fun A outer t H args us vs Q E hr => G.run A outer t H args us vs Q E (hr.mono h)⟩⟩
/-- the defs that a variable may hold -/
structure CalT (P : Program) (w : World) (K : PySem.W.Frag) (mg : Str → Option Value) (base : Heap) (k : Nat) (tbl : List (Str × M Val)) : Prop where
  of : ∀ x f, tbl.lookup x = some f → ∃ ps, Callee P w K mg base x k ps f
theorem CalT.nil {k : Nat} : CalT P w K mg base k [] := ⟨fun _ _ h => by cases h⟩
theorem CalT.cons {x : Str} {j k : Nat} {ps : List Str} {F : M Val} {tbl : List (Str × M Val)} (C : Callee P w K mg base x j ps F) (T : CalT P w K mg base k tbl) (h : j ≤ k) : CalT P w K mg base k ((x, F) :: tbl) := ⟨fun y f e => by
  rw [List.lookup_cons] at e
  split at e
  · rename_i q
    cases e
    rw [beq_iff_eq.mp q]
    exact ⟨ps, C.mono h⟩
  · exact T.of y f e⟩
end
/-- v(..), v's slot holding a def -/
def dFnV (i : Nat) (tbl : List (Str × M Val)) (fs : M (List Val)) : M Val := fun e => match e[i]? with
  | some (.sh (.cls x)) => (match tbl.lookup x with
    | some f => dFn f [] fs e
    | none => .bad)
  | _ => .bad
section
variable {X : Cx} {W : WX} {pos p : Pos} {ex : Expr} {es : List Expr} {fs : M (List Val)} {v : Str} {k : Nat} {tbl : List (Str × M Val)}
end
end DL

set_option maxHeartbeats 4000000
/-! DL44: isinstance of an own object's class; a != b by an own __eq__. -/
namespace DL
open PySem PySem.Spec PyProof.Rows L2
variable [TabsT]
/-- what isinstance(x, c) asks, x of the class c -/
structure InsC (K : PySem.W.Frag) (c : Str) : Prop where
  ha : PySem.W.findIn K (.ref (He.ga K c)) "__class__" = some (some (.builtin "object.__class__"))
  hn : PySem.W.specialIn K (.builtin "object.__class__") "__get__" = some (some (.builtin "getset_descriptor.__get__"))
  ht : PySem.W.takesIn K (.builtin "object.__class__") = some true
  hm : PySem.W.mroIn K (He.ga K c) (.type "object") = some true
  me : PySem.W.kitOne K (.ref (He.ga K c)) (.ref (He.ga K c)) = some true
def insB (K : PySem.W.Frag) (c : Str) : Bool :=
  decide (PySem.W.findIn K (.ref (He.ga K c)) "__class__" = some (some (.builtin "object.__class__"))) && (decide (PySem.W.specialIn K (.builtin "object.__class__") "__get__" = some (some (.builtin "getset_descriptor.__get__"))) && (
  decide (PySem.W.takesIn K (.builtin "object.__class__") = some true) && (decide (PySem.W.mroIn K (He.ga K c) (.type "object") = some true) && decide (PySem.W.kitOne K (.ref (He.ga K c)) (.ref (He.ga K c)) = some true))))
/-- isinstance(x, c), x known to be of the class c -/
def isIns (c : Str) (vs : List Val) : M Val := fun e => match vs with
  | [v, .d (.cls c')] => (match vwD e v with
    | some (.ins c1 _ _) => if c1 = c ∧ c' = c then .ok (.d (.bl true)) e else .bad
    | _ => .bad)
  | _ => .bad
/-! ### a != b -/
/-- what the written part says of a class with an own __eq__ at f and no __ne__ -/
def neB (K : PySem.W.Frag) (c : Str) (f : Addr) : Bool := match K.lookup (He.ga K c) with
  | some ⟨.type "type", _, .cls cd, sl⟩ => (match cd.mro, sl.toList with
    | [.ref C', .type o], [_, _, _, _, some (.builtin _), _] => C' == He.ga K c && (o == "object" && (!cd.hasDel && (PySem.W.nsOkIn K cd.ns && (decide (PySem.W.nsIn K cd.ns "__eq__" = some (some (.ref f))) && (decide (PySem.W.nsIn K cd.ns "__ne__" = some none) && PySem.W.isFn K (.ref f))))))
    | _, _ => false)
  | _ => false
structure NeOk (P : Program) (w : World) (K : PySem.W.Frag) (mg : Str → Option Value) (base : Heap) (c : Str) (k : Nat) (F : M Val) : Prop where
  ex : ∃ f fd ps, neB K c f = true ∧ Binds K fd ps [] ∧ DFn P w K mg base k f fd ps F
def insOf (c : Str) (e : Env) (v : Val) : Prop := ∃ ns xs, vwD e v = some (.ins c ns xs)
def isNewV : Val → Bool
  | .new _ => true
  | _ => false
def notO : Val → M Val
  | .d (.bl b) => fun e => .ok (.d (.bl (!b))) e
  | _ => fun _ => .bad
/-- a call that raises nothing -/
def calmV (F : M Val) (vs : List Val) : M Val := fun e => match callV F [] vs e with
  | .er _ _ => .bad
  | o => o
open Classical in
noncomputable def neE (c : Str) (F : M Val) (v u : Val) : M Val := fun e => if insOf c e v ∧ insOf c e u then (match v with
  | .new _ => if isNewV u = true then .bad else M.bind (argV v) (fun v => M.bind (calmV F [v, u]) notO) e
  | v => M.bind (argV u) (fun u => M.bind (calmV F [v, u]) notO) e) else .bad
/-- a != b: the two are of the class, and __eq__ says whether they are equal -/
def rNeE (K : PySem.W.Frag) (c : Str) (F : M Val) : R2 := fun x y H Q => (∃ a dx fs, x = .ref a ∧ H a = some (.ins (He.ga K c) dx fs)) ∧ (∃ a dx fs, y = .ref a ∧ H a = some (.ins (He.ga K c) dx fs)) ∧
  spD K F [x, y] H (fun v H' => ∃ b, v = .bl b ∧ Q (.bl (!b)) H') fun _ _ _ => False
section
variable {K : PySem.W.Frag} {W : WX} {σ : St} {H0 S0 H S : Hp} {e0 e : Env} {c : Str} {F : M Val} {Q : VK}
end
end DL

set_option maxHeartbeats 4000000
/-! DL45: set(t), sorted(set(t)), t a tuple of tuples of numbers. -/
namespace DL
open PySem PySem.Spec PyProof.Rows L2
abbrev set0 (w : World) : Obj := { cls := .type "set", dict := none, data := .set #[] 0 (.fresh 0 0 (!w.params.followText "set-order")) }
section
variable {P : Program} {w : World} {A : Around} {E : Value → Shared → Prop} {s : Shared}
end
/-- set(t), t a tuple of tuples of numbers -/
def rSetTup (K : PySem.W.Frag) (P : Program) (w : World) : List V → Hp → VK → Prop := fun xs H Q => ∃ (l : Addr) (ks : List (Addr × List Int)), xs = [V.ref l] ∧ SqT K H l (ks.map fun p => V.ref p.1) ∧ (∀ p ∈ ks, SqT K H p.1 (p.2.map V.int)) ∧ ks.length < 64 ∧
  ∀ a L, H a = none → (∀ p ∈ L, p ∈ ks) → (∀ p ∈ ks, p.2 ∈ L.map (·.2)) → Q (.ref a) (upd H a (SetTO P w a L))
variable [TabsT]
/-- sorted(set(xs)), xs a list or a tuple -/
def setV3 (v : Val) : M Val := fun e => match vwD e v with
  | some (.tup xs) => if xs.length < 64 then (match intsDs xs with
    | some ks => if keysOk ks = true then .ok (.new (.lst ((ssL ks).map tupI))) e else .bad
    | none => .bad) else .bad
  | _ => setV2 v e
section
variable {X : Cx} {W : WX} {p p2 pos pos2 : Pos} {a : Expr} {fa : M Val}
end
end DL

set_option maxHeartbeats 4000000
/-! DL46: enumerate(zip(a, b)): (n, (x, y)), two new tuples a turn. -/
namespace DL
open PySem PySem.Spec PyProof.Rows L2
/-- a zip, whatever it knows of the tuple it gave out -/
abbrev ZipF (h : Heap) (z TI TO : Addr) (f0 : Value) (f : Bool) : Prop := h.get? z = some { cls := .type "zip", dict := none, data := .fields #[f0, .bool f, .bool false, .ref TI, .ref TO], slots := #[] }
def outV (v : Value) : Prop := v = .none ∨ ∃ T : Addr, v = rawInt T
section
variable {prog : Program} {w : World} {A : Around} {E : Value → Shared → Prop} {s : Shared} {z TI TO i1 i2 : Addr} {fp1 fp2 : List Addr} {n1 n2 i : Nat} {P1 P2 : Nat → Value → Prop} {St1 St2 : Nat → Heap → Prop} {a1 a2 f0 : Value} {f : Bool}
/-- what stands behind a zip's next item -/
structure ZipNext (s : Shared) (z TI TO i1 i2 : Addr) (St1 St2 : Nat → Heap → Prop) (i : Nat) (x1 x2 : Value) (h' : Heap) : Prop where
  hz : ∃ f0 f, outV f0 ∧ ZipF h' z TI TO f0 f
  hTO : ∃ a1 a2, IsTupOf2 h' TO a1 a2
  st1 : St1 (i + 1) h'
  st2 : St2 (i + 1) h'
  new : IsTupOf2 h' s.heap.objs.size x1 x2
  size : h'.objs.size = s.heap.objs.size + 1
  old : ∀ c o, c ≠ z → c ≠ TO → c ≠ i1 → c ≠ i2 → s.heap.get? c = some o → h'.get? c = some o
/-- what stands behind a zip's end -/
def ZipOver (s : Shared) (z TO i1 i2 : Addr) (h' : Heap) : Prop := ∀ c o, c ≠ z → c ≠ TO → c ≠ i1 → c ≠ i2 → s.heap.get? c = some o → h'.get? c = some o
end
/-! ### enumerate over it -/
section
variable {prog : Program} {w : World} {A : Around} {E : Value → Shared → Prop} {s : Shared} {e z : Addr} {c : Int} {old : Value}
/-- what stands behind the next pair: what the inner one left, and the pair -/
structure EnumNext (h1 : Heap) (e z : Addr) (c : Int) (x : Value) (tk : Nat) (h' : Heap) : Prop where
  out : IsEnumOut h' e z (c + 1) x h1.objs.size
  new : h'.get? h1.objs.size = some { cls := .type "tuple", data := .seq #[.int c tk, x] }
  size : h'.objs.size = h1.objs.size + 1
  old : ∀ b o, b ≠ e → h1.get? b = some o → h'.get? b = some o
end
end DL

set_option maxHeartbeats 4000000
/-! DL47: walks over enumerate(zip(a, b)). -/
namespace DL
open PySem PySem.Spec PyProof.Rows L2
variable [TabsT]
def ItEZ (K : PySem.W.Frag) (a b : Bool × Addr) : It :=
  ⟨fun i H => ∃ (xs ys : List V), SqB K a H xs ∧ SqB K b H ys ∧ i < xs.length ∧ i < ys.length,
    fun i H v H' => ∃ T1 T2 x y, v = .ref T2 ∧ H T1 = none ∧ upd H T1 (.tup [x, y]) T2 = none ∧ H' = upd (upd H T1 (.tup [x, y])) T2 (.tup [.int (i : Nat), .ref T1]) ∧ (∀ xs, SqB K a H xs → xs[i]? = some x) ∧ ∀ ys, SqB K b H ys → ys[i]? = some y,
    fun i H => ∃ xs ys : List V, SqB K a H xs ∧ SqB K b H ys ∧ i = min xs.length ys.length⟩
/-- where its parts lie -/
structure EZSep (e z TI TO i1 i2 : Addr) (a b : Addr) : Prop where
  D : ZipSep2 z TI TO i1 i2 [i1, a] [i2, b]
  ai : a ≠ i1
  bi : b ≠ i2
  ez : e ≠ z
  eTI : e ≠ TI
  eTO : e ≠ TO
  e1 : e ≠ i1
  e2 : e ≠ i2
def tnEZ (a b : Bool × Addr) (e z TI TO i1 i2 : Addr) (i : Nat) (h : Heap) : Prop :=
  (∃ old, IsEnum h e z ((i : Nat) : Int) old) ∧ (∃ f0 f, outV f0 ∧ ZipF h z TI TO f0 f) ∧ IsTupOf2 h TI (.ref i1) (.ref i2) ∧ (∃ x y, IsTupOf2 h TO x y) ∧ coreB a i1 i h ∧ coreB b i2 i h
def iEnumZip (K : PySem.W.Frag) (ta : TA) : TI := fun σ H R => ta σ H fun vs H1 => ∃ a b xs ys, vs = [.ref a.2, .ref b.2] ∧ SqB K a H1 xs ∧ SqB K b H1 ys ∧ R (ItEZ K a b) H1
/-- the pairs -/
def enZip (xs ys : List D) : List D := enumD (zip2D xs ys)
def enZipF (xs : List D) : M (List D × Option Nat) := fun e => match xs with
  | [a, b] => if isSeq a = true ∧ isSeq b = true then .ok (enZip (itsD a) (itsD b), none) e else .bad
  | _ => .bad
section
variable {X : Cx} {W : WX} {fs : M (List D)} {p p2 pos pos2 tpos : Pos} {elts : List Expr} {kk : Nat}
end
end DL

set_option maxHeartbeats 4000000
/-! DL48: max, min of two numbers; comprehensions over the values or items of an own dict with flat keys. -/
namespace DL
open PySem PySem.Spec PyProof.Rows L2
variable [TabsT]
def two2 (f : Int → Int → Int) (vs : List Val) : M Val := fun e => match vs with
  | [v, u] => (match vwD e v, vwD e u with
    | some (.int i), some (.int j) => .ok (.d (.int (f i j))) e
    | _, _ => .bad)
  | _ => .bad
abbrev max2F (i j : Int) : Int := if j > i then j else i
abbrev min2F (i j : Int) : Int := if j < i then j else i
/-! ### walks over an own dict -/
def dCompF (f : D × D → D) (i : Nat) (vs : List Nat) (g : TF) (t : M Bool) (fe : M Val) : M Val := fun e => match e[i]? with
  | some (.ow (.dct false kvs)) => (match compLoop vs g t (M.bind fe frz) (kvs.map f) [] (wipeE (e.set i .no) vs) with
    | .ok xs e' => .ok (.new (.lst xs)) (e'.set i (.ow (.dct false kvs)))
    | _ => .bad)
  | _ => .bad
def dDcF (f : D × D → D) (b : Bool) (i : Nat) (vs : List Nat) (g : TF) (t : M Bool) (fk fv : M Val) : M Val := fun e => match e[i]? with
  | some (.ow (.dct false kvs)) => (match dcLoop b vs g t (M.bind fk frz) (M.bind fv frz) (kvs.map f) [] (wipeE (e.set i .no) vs) with
    | .ok xs e' => .ok (.new (.dct b xs)) (e'.set i (.ow (.dct false kvs)))
    | _ => .bad)
  | _ => .bad
abbrev pairD (p : D × D) : D := .tup [p.1, p.2]
/-- walks of a kind over a locked dict -/
def iJ (J : Addr → Obj → List (Key × V) → It) (td : TE) : TI := fun σ H R => td σ H fun x H1 => ∃ d o kvs, x = .ref d ∧ H1 d = some (.frz o (.dK kvs)) ∧ R (J d o kvs) H1
section
variable {K : PySem.W.Frag} {W : WX} {i : Nat} {vs : List Nat} {g : TF} {t : M Bool} {fe fk fv : M Val} {σ : St} {H : Hp} {Q : VK} {f : D × D → D} {J : Addr → Obj → List (Key × V) → It} {b : Bool}
end
section
variable {X : Cx} {W : WX} {pos p ap cp : Pos} {elt kx vx tg : Expr} {ifs : List Expr} {scope : Scope} {own : List (Str × Nat)} {g : TF} {t : M Bool} {fe fk fv : M Val} {x : Str}
end
section
variable {X : Cx} {W : WX} {pos p ap cp tpos : Pos} {elt kx vx : Expr} {elts : List Expr} {kk : Nat} {ifs : List Expr} {scope : Scope} {own : List (Str × Nat)} {g : TF} {t : M Bool} {fe fk fv : M Val} {x : Str}
end
end DL

set_option maxHeartbeats 4000000
/-! DL49: a call whose last argument is a new object: it is lent to the callee as an own one and dropped behind it. -/
namespace DL
open PySem PySem.Spec PyProof.Rows L2
variable [TabsT]
def notNew : Val → Bool
  | .new _ => false
  | _ => true
def callN (F : M Val) (dfl : List D) (vs : List Val) : M Val := fun e => match vs.getLast? with
  | some (.new o) => if vs.dropLast.all notNew = true then (match callV F dfl (vs.dropLast ++ [.at_ e.length]) (e ++ [.ow o]) with
    | .ok (.at_ _) _ => .bad
    | .ok v e' => .ok v (e'.take e.length)
    | .er x e' => .er x (e'.take e.length)
    | .bad => .bad) else .bad
  | _ => .bad
def dFnN (F : M Val) (dfl : List D) (fs : M (List Val)) : M Val := M.bind fs (callN F dfl)
section
variable {K : PySem.W.Frag} {σ : St} {H0 H S : Hp} {e : Env} {x : Addr} {o : O}
end
section
variable {X : Cx} {W : WX} {pos p : Pos} {ex : Expr} {es : List Expr} {fs : M (List Val)} {F : M Val} {x : Str} {k : Nat} {ps : List Str}
end
end DL

set_option maxHeartbeats 4000000
/-! DL50: x(lambda: e), where x is try: return (word, a()) except ..: return .. -/
namespace DL
open PySem PySem.Spec PyProof.Rows L2
variable [TabsT]
noncomputable def dLamT (N : Nat) (hs : List HdM) (wd : Str) (fe : M Val) : M Val := fun e => match fe e with
  | .bad => .bad
  | .ok v e1 => (M.bind (frz v) fun d e2 => Out.ok (Val.d (.tup [.str wd, d])) e2) e1
  | .er x e1 => heardO N hs x e1
/-- its reading, from what the lambda's call brings -/
def TTT (K : PySem.W.Frag) (Ng : List Str) (l : List Clause) (wd : Str) : (XK → Hp → VK → Prop) → Hp → VK → Prop := fun tl H Q =>
  tl (fun cls d H' => ∀ σ' : L2.St, σ'.length = Ng.length → wCl K noW { nx := fun _ H' => Q .non H', rt := Q } l cls d σ' H') H
    fun v H' => ∀ p, H' p = none → Q (.ref p) (upd H' p (.tup [.str wd, v]))
/-- a def that tells what it got within a try -/
structure CatchT (P : Program) (w : World) (K : PySem.W.Frag) (mg : Str → Option Value) (base : Heap) (x : Str) (k : Nat) (a : Str) (N : Nat) (qs : List HdM) (wd : Str) : Prop where
  ex : ∃ (Ng : List Str) (pg : Arguments) (sg : Scope) (dV kV doc mo cdv ct oc : Value) (an od : Option Addr) (osl : Array (Option Value)) (l : List Clause) (h0 : ExceptHandler) (hs : List ExceptHandler) (j : _) (xt : _) (pc pt p1 p2 p3 p4 : Pos),
    Ng.length = N ∧ mg x = some (.ref (He.ga K x)) ∧ PySem.W.keepIn K (.ref (He.ga K x)) = true ∧
    K.lookup (He.ga K x) = some ⟨oc, od, .func (PySem.W.fnOf x x pg [.Try [.Return (some (.Tuple [.Constant (.str wd) j pc, .Call (.Name a p1) [] [] p2] xt pt)) p3] (h0 :: hs) [] [] p4] sg dV kV doc mo an cdv ct), osl⟩ ∧ PySem.W.codeIn K cdv x = true ∧
    L2.Binds K (PySem.W.fnOf x x pg [.Try [.Return (some (.Tuple [.Constant (.str wd) j pc, .Call (.Name a p1) [] [] p2] xt pt)) p3] (h0 :: hs) [] [] p4] sg dV kV doc mo an cdv ct) [a] [] ∧ FnScope Ng [a] sg ∧ Ng[0]? = some a ∧ Vis sg a ∧ (∀ q ∈ qs, ∀ i, q.i = some i → 1 ≤ i) ∧
    (∀ Z : Cx, starEach [.Constant (.str wd) j pc, .Call (.Name a p1) [] [] p2] Z.env = (false, eval (.Constant (.str wd) j pc) Z.env) :: starEach [.Call (.Name a p1) [] [] p2] Z.env) ∧ (∀ Z : Cx, starEach [.Call (.Name a p1) [] [] p2] Z.env = (false, eval (.Call (.Name a p1) [] [] p2) Z.env) :: starEach [] Z.env) ∧
    (∀ (A : Around) (outer : List PySem.Env) (t : Shared) (H : Hp), Room k (A.deeper (envOfC x sg t.heap.objs.size (He.ga K x) cdv)) → HdsM (hearCx P w K mg base Ng x sg (He.ga K x) cdv A outer t H) (h0 :: hs) qs l)
section
variable {X : Cx} {W : WX} {x a wd : Str} {k k0 N : Nat} {qs : List HdM} {pars : Arguments} {bd : Expr} {sc : Scope} {fe : M Val} {p lp pos : Pos}
end
end DL

set_option maxHeartbeats 4000000
/-! DL51: sum of a list or a tuple of numbers. -/
namespace DL
open PySem PySem.Spec PyProof.Rows L2
variable [TabsT]
section
variable {prog : Program} {w : World} {A : Around} {E : Value → Shared → Prop} {s : Shared} {l : Addr} {its : List Value} {ns : List Int} {Q : Value → Shared → Prop}
omit [TabsT] in
end
def rSumT (K : PySem.W.Frag) : List V → Hp → VK → Prop := fun vs H Q => ∃ (a : Addr) (ns : List Int), vs = [V.ref a] ∧ SqT K H a (ns.map V.int) ∧ Q (.int ns.sum) H
def rSum2 (K : PySem.W.Frag) : List V → Hp → VK → Prop := fun vs H Q => rSum K vs H Q ∨ rSumT K vs H Q
def sumF2 : D → Option D
  | .lst xs => (intsOf xs).map fun bs => .int bs.sum
  | .tup xs => (intsOf xs).map fun bs => .int bs.sum
  | _ => none
end DL

set_option maxHeartbeats 4000000
/-! DL52: max and min of a list or a tuple of alike data. -/
namespace DL
open PySem PySem.Spec PyProof.Rows L2
variable [TabsT]
def maxDD (x : D) (xs : List D) : D := xs.foldl (fun a y => if PySem.W.dataLt (pd a) (pd y) then y else a) x
def rMinT (K : PySem.W.Frag) : List V → Hp → VK → Prop := fun vs H Q => ∃ (a : Addr) (b0 : V × D) (bs : List (V × D)), vs = [V.ref a] ∧ SqT K H a ((b0 :: bs).map (·.1)) ∧ (∀ b ∈ b0 :: bs, Dp K H b.1 (pd b.2) ∧ (pd b.2).depth ≤ 60) ∧ alikeB ((b0 :: bs).map fun b => pd b.2) = true ∧ (∀ b ∈ b0 :: bs, pd b.2 ≠ .none) ∧
  ∀ b ∈ b0 :: bs, pd b.2 = PySem.W.minD (pd b0.2) (bs.map fun b => pd b.2) → Q b.1 H
def rMaxL (K : PySem.W.Frag) : List V → Hp → VK → Prop := fun vs H Q => ∃ (a : Addr) (b0 : V × D) (bs : List (V × D)), vs = [V.ref a] ∧ SqL K H a ((b0 :: bs).map (·.1)) ∧ (∀ b ∈ b0 :: bs, Dp K H b.1 (pd b.2) ∧ (pd b.2).depth ≤ 60) ∧ alikeB ((b0 :: bs).map fun b => pd b.2) = true ∧ (∀ b ∈ b0 :: bs, pd b.2 ≠ .none) ∧
  ∀ b ∈ b0 :: bs, pd b.2 = PySem.W.maxD (pd b0.2) (bs.map fun b => pd b.2) → Q b.1 H
def rMaxT (K : PySem.W.Frag) : List V → Hp → VK → Prop := fun vs H Q => ∃ (a : Addr) (b0 : V × D) (bs : List (V × D)), vs = [V.ref a] ∧ SqT K H a ((b0 :: bs).map (·.1)) ∧ (∀ b ∈ b0 :: bs, Dp K H b.1 (pd b.2) ∧ (pd b.2).depth ≤ 60) ∧ alikeB ((b0 :: bs).map fun b => pd b.2) = true ∧ (∀ b ∈ b0 :: bs, pd b.2 ≠ .none) ∧
  ∀ b ∈ b0 :: bs, pd b.2 = PySem.W.maxD (pd b0.2) (bs.map fun b => pd b.2) → Q b.1 H
section
open PySem.W PySem.SeqAt
end
def rMin2 (K : PySem.W.Frag) : List V → Hp → VK → Prop := fun vs H Q => rMinD K vs H Q ∨ rMinT K vs H Q
def rMax2 (K : PySem.W.Frag) : List V → Hp → VK → Prop := fun vs H Q => rMaxL K vs H Q ∨ rMaxT K vs H Q
def minC2 (vs : List Val) : M Val := fun e => match vs with
  | [v] => (match vwD e v with
    | some (.lst (x :: xs)) => if ((x :: xs).all (okN 60) && (alikeB ((x :: xs).map pd) && ((x :: xs).all (flatN 60) && (x :: xs).all notNon))) = true then .ok (.d (minDD x xs)) e else .bad
    | some (.tup (x :: xs)) => if ((x :: xs).all (okN 60) && (alikeB ((x :: xs).map pd) && ((x :: xs).all (flatN 60) && (x :: xs).all notNon))) = true then .ok (.d (minDD x xs)) e else .bad
    | _ => .bad)
  | _ => .bad
def maxC2 (vs : List Val) : M Val := fun e => match vs with
  | [v] => (match vwD e v with
    | some (.lst (x :: xs)) => if ((x :: xs).all (okN 60) && (alikeB ((x :: xs).map pd) && ((x :: xs).all (flatN 60) && (x :: xs).all notNon))) = true then .ok (.d (maxDD x xs)) e else .bad
    | some (.tup (x :: xs)) => if ((x :: xs).all (okN 60) && (alikeB ((x :: xs).map pd) && ((x :: xs).all (flatN 60) && (x :: xs).all notNon))) = true then .ok (.d (maxDD x xs)) e else .bad
    | _ => .bad)
  | _ => .bad
end DL

set_option maxHeartbeats 4000000
/-! DL53: sum of lists with a start; an empty own dict; d[k] of an own dict. -/
namespace DL
open PySem PySem.Spec PyProof.Rows L2
variable [TabsT]

/-! ### sum(xs, []) -/
def restIt (it : Nat → Array Value) : Nat → Nat → Array Value
  | _, 0 => #[]
  | i, k + 1 => it i ++ restIt it (i + 1) k
section
variable {prog : Program} {w : World} {A : Around} {R : Result → Shared → Prop} {I : Addr} {fp wr : List Addr} {n : Nat} {P : Nat → Value → Prop} {St : Nat → Heap → Prop}
omit [TabsT] in
end
omit [TabsT] in
section
variable {prog : Program} {w : World} {A : Around} {E : Value → Shared → Prop} {s : Shared}
omit [TabsT] in
end

/-- the arguments of sum(lists, []) -/
def rSumL (K : PySem.W.Frag) : List V → Hp → VK → Prop := fun vs H Q => ∃ (a b : Addr) (bs : List (Addr × List V)), vs = [V.ref a, V.ref b] ∧ SqL K H a (bs.map fun q => V.ref q.1) ∧ H b = some (.lst []) ∧ (∀ q ∈ bs, H q.1 = some (.lst q.2)) ∧
  0 < bs.length ∧ (bs.map (·.2)).flatten.length ≤ sizeLine ∧ ∀ p, H p = none → Q (.ref p) (upd H p (.lst (bs.map (·.2)).flatten))
omit [TabsT] in
def lstOf : D → Option (List D)
  | .lst xs => some xs
  | _ => none
def lstsOf : List D → Option (List (List D))
  | [] => some []
  | d :: ds => (lstOf d).bind fun l => (lstsOf ds).map (l :: ·)
def sumLC (vs : List Val) : M Val := fun e => match vs with
  | [v, u] => (match vwD e v, vwD e u with
    | some (.lst xs), some (.lst []) => (match lstsOf xs with
      | some ls => if 0 < ls.length ∧ ls.flatten.length ≤ sizeLine then .ok (.new (.lst ls.flatten)) e else .bad
      | none => .bad)
    | _, _ => .bad)
  | _ => .bad
/-! ### {} -/
def dNewDc (b : Bool) : M Val := fun e => .ok (.new (.dct b [])) e
section
variable {X : Cx} {W : WX} {pos : Pos}
end

/-! ### d[k] -/
def getK (b : Bool) (kvs : List (D × D)) (d : D) : Option D := match b with
  | true => (kvs.find? fun p => decide (tkeyD p.1 = tkeyD d)).map (·.2)
  | false => (kvs.find? fun p => decide (keyD p.1 = keyD d)).map (·.2)
def ixK (v u : Val) : M Val := fun e => match vwO e v with
  | some (.dct b kvs) => (match u with
    | .d x => if keyOk b x = true then (match getK b kvs x with
      | some y => .ok (.d y) e
      | none => .bad) else .bad
    | _ => .bad)
  | _ => .bad
def rIxDct : R2 := fun x y H Q => ∃ a v, x = .ref a ∧ DGet H a y (some v) ∧ Q v H
section
variable {X : Cx} {W : WX} {pos : Pos}
end
end DL

set_option maxHeartbeats 4000000
/-! DL54: set(xs), sorted(set(xs)) of a list of any length in which fewer than 63 tuples of numbers are unlike. -/
namespace DL
open PySem PySem.Spec PyProof.Rows L2
/-- whatever stands in the set, there is room for one more -/
def FewU (ks : List (Addr × List Int)) : Prop := ∀ L : List (Addr × List Int), (∀ p ∈ L, p ∈ ks) → (L.map (·.2)).Nodup → L.length + 1 < 64
section
variable {P : Program} {w : World} {A : Around} {E : Value → Shared → Prop} {s : Shared}
end
def rSetLst (K : PySem.W.Frag) (P : Program) (w : World) : List V → Hp → VK → Prop := fun xs H Q => ∃ (l : Addr) (ks : List (Addr × List Int)), xs = [V.ref l] ∧ SqL K H l (ks.map fun p => V.ref p.1) ∧ (∀ p ∈ ks, SqT K H p.1 (p.2.map V.int)) ∧ FewU ks ∧
  ∀ a L, H a = none → (∀ p ∈ L, p ∈ ks) → (∀ p ∈ ks, p.2 ∈ L.map (·.2)) → Q (.ref a) (upd H a (SetTO P w a L))
variable [TabsT]
theorem nodup_leU {α : Type} [DecidableEq α] : ∀ (A l : List α), l.Nodup → (∀ r ∈ l, r ∈ A) → l.length ≤ A.length
  | [], l, _, h => by
    cases l with
    | nil => exact Nat.le_refl _
    | cons r l => have := h r (by simp); cases this
  | a :: A, l, hn, h => by
    have h1 := nodup_leU A (l.erase a) (hn.erase a) fun r hr => by
      have h2 := h r (List.mem_of_mem_erase hr)
      rcases List.mem_cons.mp h2 with e | e
      · subst e
        exact absurd rfl ((List.Nodup.mem_erase_iff hn).mp hr).1
      · exact e
    rw [List.length_erase] at h1
    rw [List.length_cons]
    split at h1 <;> omega
/-- sorted(set(xs)), xs a list with few unlike items, or a tuple of fewer than 64 -/
def setV4 (v : Val) : M Val := fun e => match vwD e v with
  | some (.tup xs) => if xs.length < 64 then (match intsDs xs with
    | some ks => if keysOk ks = true then .ok (.new (.lst ((ssL ks).map tupI))) e else .bad
    | none => .bad) else .bad
  | some a => if isTupD a = false ∧ isSeq a = true then (match intsDs (itsD a) with
    | some ks => if keysOk ks = true ∧ (ddp ks).length < 63 then .ok (.new (.lst ((ssL ks).map tupI))) e else .bad
    | none => .bad) else .bad
  | none => .bad
section
variable {X : Cx} {W : WX} {p p2 pos pos2 : Pos} {a : Expr} {fa : M Val}
end
end DL

set_option maxHeartbeats 4000000
/-! DL55: xs.index(x) of a list of data (x is in it). -/
namespace DL
open PySem PySem.Spec PyProof.Rows L2
variable [TabsT]
theorem pdL_all : ∀ xs : List D, pdL xs = xs.map pd
  | [] => by unfold pdL; rfl
  | x :: xs => by unfold pdL; rw [pdL_all xs]; rfl
def idxD (xs : List D) (x : D) : Option Nat := xs.findIdx? fun y => eqvD y x
/-- xs.index(x) -/
def indexM (v : Val) (ds : List D) : M Val := fun e => match vwD e v, ds with
  | some (.lst xs), [x] => if okN 60 (.lst xs) = true ∧ okN 60 x = true then (match idxD xs x with
    | some j => .ok (.d (.int (j : Nat))) e
    | none => .bad) else .bad
  | _, _ => .bad
theorem indexMD {K : PySem.W.Frag} : MethD K indexM (rIndexD K) := by
  intro W σ H0 S0 e0 H S e v w ds ws Q A E hv hd g
  unfold indexM at g
  split at g
  · rename_i xs x q
    split at g
    · rename_i hok
      split at g
      · rename_i j hj
        obtain ⟨w2, us, rfl, r2, ru⟩ := repL_cons.mp hd
        rw [repL_nil] at ru
        subst ru
        have rl : Rep K H (.lst xs) w := (hv.view A q).rep A.sub
        obtain ⟨d1, s1⟩ := shaped_of hok.1 rl
        obtain ⟨d2, s2⟩ := shaped_of hok.2 (r2.same A.sub)
        obtain ⟨a, vs, rfl, _⟩ := rep_lst.mp rl
        have ep : pd (.lst xs) = .list (pdL xs) := by unfold pd; rfl
        rw [ep] at d1 s1
        obtain ⟨hlt, hp, hno⟩ := List.findIdx?_eq_some_iff_getElem.mp hj
        refine ⟨a, w2, pd x, pdL xs, j, pd xs[j], rfl, rfl, d1, d2, s1, s2, ?_, hp, fun m z hm hz => ?_, fin_d A E (rep_int.mpr rfl) g⟩
        · rw [pdL_all, List.getElem?_map, List.getElem?_eq_getElem hlt]; rfl
        · rw [pdL_all, List.getElem?_map, List.getElem?_eq_getElem (by omega)] at hz
          cases hz
          have h2 : eqvD xs[m] x = false := by simpa using hno m hm
          exact h2
      · exact g.elim
    · exact g.elim
  · exact g.elim
end DL

set_option maxHeartbeats 4000000
/-! DL56: methods of own classes, called on an own object: o.m(..); the object is lent as the first argument. -/
namespace DL
open PySem PySem.Spec PyProof.Rows L2
variable [TabsT]
def tMethSD (C : Addr) (m : Str) (sp : Sp) (E : St → XK) (ta : TE) (t : TA) : TE := fun σ H Q => ta σ H fun x H1 => ∃ a dx fs, x = .ref a ∧ H1 a = some (.ins C dx fs) ∧ fs.lookup m = none ∧ t σ H1 fun vs H2 => sp (x :: vs) H2 Q (E σ)
section
variable {X : Cx} {CX : CXT} {k : Nat} {f C : Addr} {fd : FuncData} {ps : List Str} {sp : Sp} {m : Str} {pos apos : Pos} {o ex : Expr} {es : List Expr} {ta : TE} {t : TA} {pl : Sem Bool}
end
/-- an object of the class c without a field m -/
def insM (c m : Str) (v : Val) : M Unit := fun e => match vwO e v with
  | some (.ins d ns _) => if d = c ∧ ns.contains m = false then .ok () e else .bad
  | _ => .bad
def dMo (c m : Str) (F fo : M Val) (fs : M (List Val)) : M Val := M.bind fo fun v => M.bind (insM c m v) fun _ => M.bind fs fun vs => M.bind (fixV v) fun v => callV F [] (v :: vs)
/-- a method of an own class -/
structure CalleeO (P : Program) (w : World) (K : PySem.W.Frag) (mg : Str → Option Value) (base : Heap) (c m : Str) (k : Nat) (ps : List Str) (F : M Val) : Prop where
  ex : ∃ f fd, Cls K (He.ga K c) ∧ Meth K (He.ga K c) m f ∧ Binds K fd ps [] ∧ DFn P w K mg base k f fd ps F
/-- what the written part says of a method -/
def meB (K : PySem.W.Frag) (c m : Str) (f : Addr) : Bool := decide (PySem.W.findIn K (.ref (He.ga K c)) m = some (some (.ref f))) && (PySem.W.isFn K (.ref f) && PySem.W.keepIn K (.ref f))
omit [TabsT] in
section
variable {X : Cx} {W : WX} {k : Nat} {ps : List Str} {F : M Val} {c m : Str} {pos apos : Pos} {o ex : Expr} {es : List Expr} {fo : M Val} {fs : M (List Val)} {pl : Sem Bool}
end
end DL

set_option maxHeartbeats 4000000
/-! DL57: o.f += e, of numbers, o an own object. -/
namespace DL
open PySem PySem.Spec PyProof.Rows L2
variable [TabsT]
def addFld (cs : List Str) (f : Str) (t : Val) (a : Int) (v : Val) : SM := fun e => match v with
  | .d (.int b) => putFld cs f t (.int (a + b)) e
  | _ => .bad
def sFldA (cs : List Str) (f : Str) (fe fo : M Val) : SM := sBind fo fun t e => match t with
  | .at_ i => (match e[i]? with
    | some (.ow (.ins c ns xs)) => if c ∈ cs then (match (ns.zip xs).lookup f with
      | some (.int a) => sBind fe (addFld [c] f (.at_ i) a) e
      | _ => .bad) else .bad
    | _ => .bad)
  | _ => .bad
section
variable {X : Cx} {W : WX} {np : Nat} {pos pos' : Pos} {ex o : Expr} {fe fo : M Val} {f : Str} {cs : List Str}
end
end DL

set_option maxHeartbeats 4000000
/-! DL58: sets of up to 75 unlike tuples of numbers. -/
namespace DL
open PySem PySem.Spec PyProof.Rows L2
/-- a set of tuples: as many as its table bears -/
structure SetU (P : Program) (w : World) (g : Heap) (b : Addr) (M : List (Addr × List Int)) (xs : Array (Int × Value)) (ep : Nat) (t : SetTable) : Prop where
  obj : ∃ o, g.get? b = some o ∧ o.ExactSet ∧ o.data = .set xs ep t
  rs : xs.toList = rowsOf P w M
  tb : TabOk t (M.map fun q => thash P w q.2)
  un : (M.map (·.2)).Nodup
  tp : ∀ q ∈ M, IsT P w g q.2 q.1
  pln : t.plain = true
  ldd : w.params.followText "set-order" = true ∨ t.led = true
  rm : M.length * 5 < t.mask * 3
/-- where a search for k stands after c steps -/
abbrev prb (P : Program) (w : World) (t : SetTable) (k : List Int) (c : Nat) : SetTable.Probe := nth t.mask (runAt t.mask (SetTable.bits (thash P w k) % (t.mask + 1)) (SetTable.bits (thash P w k))) c
/-- the slot there -/
abbrev wy (P : Program) (w : World) (t : SetTable) (k : List Int) (c : Nat) : Nat := way t.mask (thash P w k) c
section
variable {P : Program} {w : World} {A : Around} {E : Value → Shared → Prop} {s : Shared} {b : Addr} {M : List (Addr × List Int)} {xs : Array (Int × Value)} {ep : Nat} {t : SetTable}
theorem SetU.of {g : Heap} (R : SetTR P w g b M xs ep t) : SetU P w g b M xs ep t := ⟨R.ob, R.rows, R.tab, R.nd, R.tup, R.plain, R.led, R.room⟩
theorem SetU.small (R : SetU P w s.heap b M xs ep t) (c : M.length < 64) : SetTR P w s.heap b M xs ep t := ⟨R.obj, R.rs, R.tb, R.un, R.tp, R.pln, R.ldd, R.rm, c⟩
theorem SetU.len (R : SetU P w s.heap b M xs ep t) : xs.size = M.length := by
  have := congrArg List.length R.rs
  simpa [rowsOf] using this
theorem SetU.plc (R : SetU P w s.heap b M xs ep t) : t.place.size = M.length := by
  have := R.tb.sz
  simpa using this
theorem SetU.ok (R : SetU P w s.heap b M xs ep t) : t.fits xs.size = true := by
  have z := R.plc
  have y := R.len
  have r := R.rm
  unfold SetTable.fits SetTable.fill
  rw [R.tb.dm]
  simp only [Bool.and_eq_true, beq_iff_eq, decide_eq_true_eq]
  refine ⟨by omega, ?_⟩
  show t.place.size + 0 ≤ t.mask
  omega
theorem SetU.at_ (R : SetU P w s.heap b M xs ep t) {i : Nat} {q : Addr × List Int} (h : M[i]? = some q) : xs[i]? = some (thash P w q.2, Value.ref q.1) := by
  have z : xs.toList[i]? = some (thash P w q.2, Value.ref q.1) := by
    rw [R.rs]
    simp [rowsOf, h]
  exact (Array.getElem?_toList).symm.trans z
theorem SetU.way_ (R : SetU P w s.heap b M xs ep t) : ¬ t.gaveWay = true := by
  have := mask_odd R.tb.mok
  simp [SetTable.gaveWay, this]
theorem no_dummy {m : Nat} : ∀ (n : Nat) (p : SetTable.Probe), p.dummy = none → (nth m p n).dummy = none
  | 0, _, h => h
  | n + 1, p, h => no_dummy n (adv m p) (by unfold adv; split <;> exact h)
theorem mem_same (t : SetTable) : t.sameMemory t.moves t.mask = some true := by
  simp [SetTable.sameMemory]
/-- the search: what stands at a slot of equal hash is asked whether it is equal -/
theorem look_from (R : SetU P w s.heap b M xs ep t) {x : Addr} {k : List Int} (key : IsT P w s.heap k x) (low : A.units < cLine) {N : Nat} (n1 : N < 10 * SetTable.turns t.mask)
    (n2 : wy P w t k N ∉ t.place.toList) (n3 : ∀ c, c < N → wy P w t k c ∈ t.place.toList) {Q : SetFound → Shared → Prop}
    (yes : k ∈ M.map (·.2) → Q (.there none) s) (no : k ∉ M.map (·.2) → Q (.free (wy P w t k N) false) s) :
    ∀ (f c : Nat) (st : Option SetTable.Probe), st.getD (t.probeStart (thash P w k)) = prb P w t k c → c ≤ N → N < f + c →
      (∀ (i : Nat) q, M[i]? = some q → q.2 = k → ∃ c', c ≤ c' ∧ c' < N ∧ t.place.toList[i]? = some (wy P w t k c')) →
      wpAny (model P w) A (setSearchFrom b (.ref x) (thash P w k) true f st) Q E s := by
  have sh : ∀ c q, nth t.mask (prb P w t k c) q = prb P w t k (c + q) := fun c q => (nth_add t.mask c _ q).symm
  intro f
  induction f with
  | zero => intro c st _ e1 e2 _; omega
  | succ f ih =>
    intro c st e0 e1 e2 due
    obtain ⟨o, ho, ex, hd⟩ := R.obj
    rw [setSearchFrom_succ]
    refine wpAny_bind (wpAny_setState_of ho hd R.ok ?_)
    refine wp_if_neg R.way_ ?_
    try refine wpAny_bind (wpAny_pure ?_)
    have sp := go_spec t R.tb.ris R.tb.dm (fun i => (xs[i]?.map (·.1)).getD 0) (thash P w k) (10 * SetTable.turns t.mask) (N - c) (prb P w t k c) (no_dummy c _ rfl) (by omega)
      (fun q hq => by rw [sh]; exact n3 (c + q) (by omega)) (by rw [sh, Nat.add_sub_cancel' e1]; exact n2)
    have hsh : ∀ (i : Nat) q, M[i]? = some q → (fun i => (xs[i]?.map (·.1)).getD 0) i = thash P w q.2 := fun i q h => by simp [R.at_ h]
    rcases sp with ⟨q, i, q1, q2, q3, q4, q5⟩ | ⟨q4, q5⟩
    · have q6 : t.probe (fun i => (xs[i]?.map (·.1)).getD 0) (thash P w k) (st.getD (t.probeStart (thash P w k))) = some (.candidate (prb P w t k (c + q)).j i (prb P w t k (c + (q + 1)))) := by
        rw [e0, ← sh, ← sh]
        exact q5
      rw [q6]
      rw [sh] at q2
      have il : i < M.length := by
        have z1 := (List.getElem?_eq_some_iff.mp q2).1
        have z2 := R.plc
        simp only [Array.length_toList] at z1
        omega
      obtain ⟨y, hy⟩ : ∃ y, M[i]? = some y := ⟨M[i], List.getElem?_eq_getElem il⟩
      have ym := List.mem_of_getElem? hy
      have go : wpAny (model P w) A (searchRest b (.ref x) (thash P w k) true f xs t (prb P w t k (c + q)).j i (prb P w t k (c + (q + 1)))) Q E s := by
        unfold searchRest
        rw [R.at_ hy]
        refine wpAny_bind (wpAny_holding (wpAny_eqBool_tuple low (R.tp y ym) key ?_))
        refine wpAny_bind (wpAny_setState_of ho hd R.ok ?_)
        by_cases e : y.2 = k
        · refine wp_if_pos (by simp [e]) (wpAny_pure (yes ?_))
          exact e ▸ List.mem_map.mpr ⟨y, ym, rfl⟩
        · refine wp_if_neg (by simp [e]) ?_
          try refine wpAny_bind (wpAny_pure ?_)
          have live : t.slot (prb P w t k (c + q)).j = .live i := slot_live R.tb.ris q2
          rw [mem_same]
          simp only [if_true, live, R.at_ hy]
          refine wpAny_bind (wpAny_isSame_ref_self (wpAny_bind (wpAny_pure ?_)))
          simp only [if_true]
          refine wp_if_neg (by simp [e]) (ih (c + (q + 1)) _ rfl (by omega) (by omega) fun i' q' h1 h2 => ?_)
          obtain ⟨c', d1, d2, d3⟩ := due i' q' h1 h2
          refine ⟨c', ?_, d2, d3⟩
          rcases Nat.lt_trichotomy c' (c + q) with z | z | z
          · refine absurd ((hsh i' q' h1).trans (congrArg (thash P w) h2)) (q4 (c' - c) i' (by omega) ?_)
            rw [sh, Nat.add_sub_cancel' d1]
            exact d3
          · subst z
            have z2 := (slot_live R.tb.ris d3).symm.trans live
            injection z2 with z2
            subst z2
            exact absurd ((congrArg Prod.snd (Option.some.inj (hy.symm.trans h1))).trans h2) e
          · omega
      by_cases l : t.led = true
      · refine wp_if_neg (by simp [l]) ?_
        try refine wpAny_bind (wpAny_pure ?_)
        exact go
      · refine wp_if_pos (by simp [l]) (wpAny_bind (seen_tup key (fun u hu => ?_) ?_))
        · obtain ⟨e, he, rfl⟩ := List.mem_map.mp hu
          have m : e ∈ xs.toList := by
            have : e ∈ xs ∧ e.1 = thash P w k := by simpa using he
            simpa using this.1
          rw [R.rs] at m
          obtain ⟨p2, m2, rfl⟩ := List.mem_map.mp m
          exact ⟨p2.2, p2.1, rfl, R.tp p2 m2⟩
        · refine wp_if_neg (by decide) ?_
          try refine wpAny_bind (wpAny_pure ?_)
          exact go
    · have q6 : t.probe (fun i => (xs[i]?.map (·.1)).getD 0) (thash P w k) (st.getD (t.probeStart (thash P w k))) = some (.empty (wy P w t k N) none) := by
        have z : wy P w t k N = (nth t.mask (prb P w t k c) (N - c)).j := by rw [sh, Nat.add_sub_cancel' e1]
        rw [e0, z]
        exact q5
      rw [q6]
      refine wpAny_pure (no fun hm => ?_)
      obtain ⟨y, ym, e⟩ := List.mem_map.mp hm
      obtain ⟨i, hi, rfl⟩ := List.getElem_of_mem ym
      have hy : M[i]? = some M[i] := List.getElem?_eq_getElem hi
      obtain ⟨c', d1, d2, d3⟩ := due i _ hy e
      refine absurd ((hsh i _ hy).trans (congrArg (thash P w) e)) (q4 (c' - c) i (by omega) ?_)
      rw [sh, Nat.add_sub_cancel' d1]
      exact d3
theorem look_at (R : SetU P w s.heap b M xs ep t) {x : Addr} {k : List Int} (key : IsT P w s.heap k x) (low : A.units < cLine) {Q : SetFound → Shared → Prop}
    (yes : k ∈ M.map (·.2) → Q (.there none) s) (no : ∀ N, k ∉ M.map (·.2) → wy P w t k N ∉ t.place.toList → (∀ c, c < N → wy P w t k c ∈ t.place.toList) → Q (.free (wy P w t k N) false) s) :
    wpAny (model P w) A (setSearch b (.ref x) (thash P w k) true) Q E s := by
  have r := R.rm
  obtain ⟨N, n1, n2, n3⟩ := R.tb.first (by rw [List.length_map]; omega) (thash P w k)
  have big : N < 100000 := by
    have : SetTable.turns t.mask ≤ 142 := by unfold SetTable.turns; rcases R.tb.mok with e | e | e <;> omega
    omega
  unfold setSearch
  refine look_from R key low n1 n2 n3 yes (fun z => no N z n2 n3) 100000 0 none rfl (Nat.zero_le _) (by omega) fun i q h e => ?_
  have z1 : (M.map fun q => thash P w q.2)[i]? = some (thash P w k) := by simp [h, e]
  have il : i < t.place.toList.length := by
    have := (List.getElem?_eq_some_iff.mp h).1
    have := R.plc
    simp only [Array.length_toList]
    omega
  obtain ⟨c, c1, c2⟩ := R.tb.before n2 z1 (List.getElem?_eq_getElem il)
  exact ⟨c, Nat.zero_le _, c1, by rw [List.getElem?_eq_getElem il]; exact congrArg some c2.symm⟩
/-- one more, while fewer than 75 are in -/
theorem grow_at (R : SetU P w s.heap b M xs ep t) {x : Addr} {k : List Int} (key : IsT P w s.heap k x) (low : A.units < cLine) (cap : M.length + 1 < 76) {Q : Bool → Shared → Prop}
    (out : ∀ r g M' xs' ep' t', Heap.SameBut b s.heap g → SetU P w g b M' xs' ep' t' → (k ∈ M.map (·.2) → M' = M) → (k ∉ M.map (·.2) → M'.Perm ((x, k) :: M)) → Q r { s with heap := g }) :
    wpAny (model P w) A (setAddHashed b (.ref x) (thash P w k)) Q E s := by
  by_cases c : M.length + 1 < 64
  · exact add_at (R.small (by omega)) key low c fun r g M' xs' ep' t' a1 a2 a3 a4 => out r g M' xs' ep' t' a1 (SetU.of a2) a3 a4
  have r := R.rm
  have big : t.mask = 127 := by rcases R.tb.mok with e | e | e <;> omega
  have sz := R.len
  obtain ⟨o, ho, ex, hd⟩ := R.obj
  unfold setAddHashed
  refine wpAny_holding ?_
  rw [show (100000 : Nat) = 99999 + 1 from rfl, setAddHashedIn_succ]
  refine wpAny_bind (wpAny_setState_of ho hd R.ok ?_)
  refine wp_if_neg (by simp [byScan, Value.scannable]) ?_
  try refine wpAny_bind (wpAny_pure ?_)
  refine wpAny_bind (look_at R key low (fun m => ?_) fun N m n2 n3 => ?_)
  · exact wpAny_pure (out false s.heap M xs ep t (Heap.SameBut.refl b s.heap) R (fun _ => rfl) fun z => absurd m z)
  · dsimp only
    refine wpAny_bind (wpAny_setState_of ho hd R.ok ?_)
    dsimp only
    obtain ⟨p1, p2, p3, p4, p5, p6, -, -, p9⟩ := R.tb.put n2 n3
    have pp : (t.put (wy P w t k N)).1.plain = true := p6.trans R.pln
    generalize e : t.put (wy P w t k N) = tp at p1 p3 p4 p5 p6 p9 pp ⊢
    obtain ⟨t1, j⟩ := tp
    dsimp only at p1 p3 p4 p5 p6 p9 pp ⊢
    subst p1
    first
      | (refine wpAny_bind ?_; refine wp_if_pos pp ?_; refine hashBy_tup key ?_)
      | refine wp_if_pos pp (wpAny_bind (hashBy_tup key ?_))
    simp only [if_true]
    have rs1 : (SetTable.insertAt xs (SetTable.below t.place (wy P w t k N)) (thash P w k, Value.ref x)).toList = rowsOf P w (M.take (SetTable.below t.place (wy P w t k N)) ++ (x, k) :: M.drop (SetTable.below t.place (wy P w t k N))) := by
      rw [SetTable.toList_insertAt, rows_put, R.rs]
    generalize SetTable.below t.place (wy P w t k N) = j at p2 p3 rs1 ⊢
    have pm := put_perm M j (x, k)
    have tb1 : TabOk t1 ((M.take j ++ (x, k) :: M.drop j).map fun q => thash P w q.2) := by simpa [List.map_take, List.map_drop] using p3
    generalize M.take j ++ (x, k) :: M.drop j = M1 at pm rs1 tb1
    generalize SetTable.insertAt xs j (thash P w k, Value.ref x) = xs1 at rs1 ⊢
    have l1 : M1.length = M.length + 1 := pm.length_eq
    have l2 : xs1.size = M.length + 1 := by
      have := congrArg List.length rs1
      simpa [rowsOf, l1] using this
    refine wpAny_bind (wpAny_storeSet_of ho hd ?_ (by rw [l2, sizeLine_eq]; omega))
    have sb : Heap.SameBut b s.heap (s.heap.update b (Obj.putSet xs1 t1)) := Heap.SameBut.update ..
    have ho1 := store_at (es' := xs1) (t' := t1) ho hd
    generalize s.heap.update b (Obj.putSet xs1 t1) = g at sb ho1 ⊢
    have tp1 : ∀ q ∈ M1, IsT P w g q.2 q.1 := fun q hq => (List.mem_cons.mp (pm.mem_iff.mp hq)).elim (fun z => by subst z; exact isT_same key ho hd sb) fun z => isT_same (R.tp q z) ho hd sb
    have un1 : (M1.map (·.2)).Nodup := (pm.map (·.2)).nodup_iff.mpr (by rw [List.map_cons]; exact List.nodup_cons.mpr ⟨m, R.un⟩)
    have ld1 : w.params.followText "set-order" = true ∨ t1.led = true := by rw [p5]; exact R.ldd
    have nf : ¬ t1.tooFull = true := by
      unfold SetTable.tooFull
      rw [decide_eq_true_eq, p9, List.length_map, p4, big]
      omega
    first
      | refine wp_if_neg (by simp [nf]) ?_
      | (refine wpAny_bind ?_; refine wp_if_neg (by simp [nf]) ?_; refine wpAny_pure ?_)
    exact wpAny_pure (out true g M1 xs1 (ep + 1) t1 sb ⟨⟨_, ho1, ⟨ex.1, ex.2.1, ex.2.2⟩, rfl⟩, rs1, tb1, un1, tp1, pp, ld1, by rw [l1, p4, big]; omega⟩ (fun z => absurd z m) fun _ => pm)
theorem SetU.keep {g g' : Heap} {b : Addr} (R : SetU P w g b M xs ep t) (ha : ∀ o, g.get? b = some o → g'.get? b = some o) (ht : ∀ q ∈ M, IsT P w g' q.2 q.1) : SetU P w g' b M xs ep t := by
  obtain ⟨o, ho, r⟩ := R.obj
  exact ⟨⟨o, ha o ho, r⟩, R.rs, R.tb, R.un, ht, R.pln, R.ldd, R.rm⟩
theorem setU_fresh {h : Heap} {a : Addr} (ho : h.get? a = some (set0 w)) : SetU P w h a [] #[] 0 (.fresh 0 0 (!w.params.followText "set-order")) := SetU.of (setTR_fresh ho)
/-- whatever stands in the set, there is room for one more -/
def FewV (ks : List (Addr × List Int)) : Prop := ∀ L : List (Addr × List Int), (∀ p ∈ L, p ∈ ks) → (L.map (·.2)).Nodup → L.length + 1 < 76
end
section
variable {P : Program} {w : World} {A : Around} {E : Value → Shared → Prop} {s : Shared}
theorem set_runU {I : Addr} {fp wr : List Addr} {G : Array GenState → Array GenState → Prop} {n : Nat} {Pv : Nat → Value → Prop} {St : Nat → Shared → Prop} {R : Result → Shared → Prop}
    (W : WalksS P w A.in1 I fp wr G n Pv St) (T : Addr) (apart : T ∉ fp) (ks : List (Addr × List Int)) (size_ : n = ks.length) (few : FewV ks) (vals : ∀ i v, Pv i v → ∃ p, ks[i]? = some p ∧ v = .ref p.1)
    (g0 : Heap) (tups : ∀ p ∈ ks, IsT P w g0 p.2 p.1) (free_ : g0.get? T = none) (freeW : ∀ b ∈ wr, g0.get? b = none) (room : A.in1.units < cLine) :
    ∀ (m i : Nat) (s : Shared), n - i = m → i ≤ n → St i s → (∀ b o, g0.get? b = some o → s.heap.get? b = some o) → (∃ L es ep t, SetU P w s.heap T L es ep t ∧ Got ks i L) →
      (∀ s' L es ep t, Moved (T :: wr) G s s' → SetU P w s'.heap T L es ep t → Got ks n L → (∀ b o, g0.get? b = some o → s'.heap.get? b = some o) → R (.ok (.ret .none)) s') →
      codeAny (model P w) A (.builtin "set.update.loop" ⟨[.ref T, .ref I], []⟩) R s := by
  have tw : T ∉ wr := fun z => apart (W.sub _ z)
  have up : ∀ {s s' : Shared}, Moved wr G s s' → Moved (T :: wr) G s s' := fun mv => mv.mono fun b hb => List.mem_cons_of_mem _ hb
  have old : ∀ {s s' : Shared}, Moved wr G s s' → (∀ b o, g0.get? b = some o → s.heap.get? b = some o) → ∀ b o, g0.get? b = some o → s'.heap.get? b = some o := fun mv kp b o e =>
    mv.heap b o (fun z => by have := freeW b z; rw [e] at this; cases this) (kp b o e)
  have inn : ∀ {i : Nat} {L : List (Addr × List Int)}, Got ks i L → ∀ p ∈ L, p ∈ ks := fun g p hp => List.mem_of_mem_take (g.sub p hp)
  intro m
  induction m with
  | zero =>
    intro i s e1 e2 st kp ⟨L, es, ep, t, hT, g⟩ go
    obtain rfl : i = n := by omega
    refine codeAny_builtin PyProof.Rows.F.entry_set_update_loop ?_
    rw [Around.under_plainId PyProof.Rows.F.plain_set_update_loop _]
    refine show wpAny _ A.in1 (pyNext (.ref I) >>= _) _ _ s from wpAny_bind (W.done s _ _ st fun s1 mv => ?_)
    exact show wpAny _ A.in1 (ret Value.none) _ _ s1 from wpAny_pure (go s1 L es ep t (up mv) (hT.keep (fun o e => mv.heap T o tw e) fun p hp => isT_keep (tups p (inn g p hp)) (old mv kp)) g (old mv kp))
  | succ m ih =>
    intro i s e1 e2 st kp ⟨L, es, ep, t, hT, g⟩ go
    have lt_ : i < n := by omega
    refine codeAny_builtin PyProof.Rows.F.entry_set_update_loop ?_
    rw [Around.under_plainId PyProof.Rows.F.plain_set_update_loop _]
    refine show wpAny _ A.in1 (pyNext (.ref I) >>= _) _ _ s from wpAny_bind (W.item i s _ _ lt_ st fun v s1 hv st1 mv => ?_)
    obtain ⟨p, hp, rfl⟩ := vals i v hv
    have hx : IsT P w s1.heap p.2 p.1 := isT_keep (tups p (List.mem_of_getElem? hp)) (old mv kp)
    have hT1 : SetU P w s1.heap T L es ep t := hT.keep (fun o e => mv.heap T o tw e) fun q hq => isT_keep (tups q (inn g q hq)) (old mv kp)
    refine show wpAny _ A.in1 (holding [Value.ref p.1] (setAdd T (.ref p.1)) >>= _) _ _ s1 from wpAny_bind (wpAny_holding ?_)
    unfold setAdd
    refine wpAny_holding (wpAny_bind (wpAny_pyHash_tuple room hx ?_))
    refine grow_at (s := { s1 with toks := s1.toks + (p.2.length + 1) }) hT1 hx room (few L (inn g) hT1.un) fun b g1 L1 es1 ep1 t1 sb hT2 same more => ?_
    have got : Got ks (i + 1) L1 := (Classical.em (p.2 ∈ L.map (·.2))).elim (fun z => by rw [same z]; exact g.same hp z) fun z => g.more hp (more z)
    have kp1 : ∀ b o, g0.get? b = some o → g1.get? b = some o := fun b o e => (sb.2 b fun z => by rw [z, free_] at e; cases e).trans (old mv kp b o e)
    refine wpAny_pure ⟨plainId_quiet PyProof.Rows.F.plain_set_update_loop _, ih (i + 1) _ (by omega) lt_ (W.frame _ s1 _ _ st1 (Nat.le_add_right _ _) fun b hb o e => ?_) kp1 ⟨L1, es1, ep1, t1, hT2, got⟩ fun s2 L2 es2 ep2 t2 mv2 hT3 got2 kp2 => ?_⟩
    · exact (sb.2 b fun z => apart (by rw [← z]; exact hb)).trans e
    · exact go s2 L2 es2 ep2 t2 (Moved.trans W.gtrans ((up mv).then_heap (Nat.le_add_right _ _) fun b o hb e => (sb.2 b fun z => hb (by rw [z]; exact List.mem_cons_self)).trans e) mv2) hT3 got2 kp2
theorem set_ofU {a : Addr} {xs : Array Value} (ks : List (Addr × List Int)) {Q : Value → Shared → Prop} (calm : A.handled = none) (at_ : s.heap.IsList a xs) (hx : xs.toList = ks.map fun p => Value.ref p.1)
    (tups : ∀ p ∈ ks, IsT P w s.heap p.2 p.1) (few : FewV ks) (room : A.units + 3 < cLine)
    (go : ∀ (g : Heap) (tk : Nat) L es ep t, SetU P w g s.heap.objs.size L es ep t → Got ks ks.length L → (∀ b o, s.heap.get? b = some o → g.get? b = some o) → Q (.ref s.heap.objs.size) { s with heap := g, toks := tk }) :
    wpAny (model P w) A (call (.type "set") [.ref a]) Q E s := by
  have size_ : xs.size = ks.length := by
    rw [← Array.length_toList, hx, List.length_map]
  obtain ⟨c0, tl, m1⟩ := PySem.F.called_set.mro
  have m2 := PySem.F.called_set.made
  have m3 := PySem.F.called_set.sub
  have m4 := PySem.F.called_set.notType
  have m5 := PySem.F.called_set.canCreate
  have m6 := PySem.F.typeCall_set_1 (.ref a)
  refine wpAny_call (codeAny_of_tree (show wpAny _ _ (callAny (.type "set") _) _ _ _ from wpAny_pure ⟨Code.quiet_builtin _ (by decide +kernel), codeAny_builtin PySem.F.entry_type_call ?_⟩))
  rw [Around.under_plain (weight_type_call_type "set" [.ref a] []) rfl]
  repeat (any_goals (first | assumption | wp_step))
  refine codeAny_mono (code_set_led1 (.ref a) (E := E) (Q₁ := fun v s2 => v = .ref s.heap.objs.size ∧ s2 = { s with heap := s.heap.push (set0 w) }) ⟨rfl, rfl⟩) fun r s1 hr => ?_
  cases r with
  | error e => exact hr
  | ok fl =>
  cases fl with
  | ret v =>
    obtain ⟨rfl, rfl⟩ := hr
    have new_ : (s.heap.push (set0 w)).get? s.heap.objs.size = some (set0 w) := Heap.get?_push_size _ rfl
    have ty_ : Shared.TypeIs { s with heap := s.heap.push (set0 w) } (.ref s.heap.objs.size) "set" := ⟨_, new_, rfl⟩
    have l1 := PySem.F.called_set.init.lookup
    have l2 := PySem.F.called_set.init.bind (.ref s.heap.objs.size)
    repeat (any_goals (first | assumption | wp_step))
    refine codeAny_mono (codeAny_call_builtin (R := wants (fun r s2 => r = .none ∧ ∃ g tk L es ep t, s2 = { s with heap := g, toks := tk } ∧ SetU P w g s.heap.objs.size L es ep t ∧ Got ks ks.length L ∧ (∀ b o, s.heap.get? b = some o → g.get? b = some o)) E) PySem.F.called_set.init.plain PySem.F.entry_set_init (check_set_init_1 ty_ ?_)) fun r2 s2 hr2 => ?_
    · obtain ⟨⟨cl, dd, dt, sl⟩, ho, hc, n, hd⟩ := at_
      simp only at hc hd
      subst hc hd
      have ho2 : (s.heap.push (set0 w)).get? a = some { cls := .type "list", dict := dd, data := .seq xs n, slots := sl } := Heap.get?_push_of_some _ ho
      have f1 := PySem.F.sub_list_set
      have f2 := PySem.F.sub_list_frozenset
      have f3 : (Value.type "list" == Value.type "dict") = false := by decide
      have at2 : (s.heap.push (set0 w)).IsList a xs := ⟨_, ho2, rfl, n, rfl⟩
      have lt_ : a < s.heap.objs.size := Heap.lt_size ho
      unfold Builtin.«set.__init__» noKeywords Builtin.Frozenset.updateFrom
      generalize hIt : pyIter = It
      wp_walk
      subst hIt
      refine wpAny_pyIter_list at2 (wpAny_bind (wpAny_runValue ?_))
      have calm3 : A.in1.in1.in1.handled = none := by simp [calm]
      have ne_ : a ≠ (s.heap.push (set0 w)).objs.size := by
        rw [Heap.size_push]
        exact Nat.ne_of_lt (Nat.lt_succ_of_lt lt_)
      have out_ : s.heap.objs.size ∉ [(s.heap.push (set0 w)).objs.size, a] := by
        rw [Heap.size_push]
        intro z
        rcases List.mem_cons.mp z with z | z
        · exact absurd z (Nat.ne_of_lt (Nat.lt_succ_self _))
        · exact absurd (List.mem_singleton.mp z) (Nat.ne_of_gt lt_)
      have vals : ∀ (i : Nat) (v : Value), xs[i]? = some v → ∃ p, ks[i]? = some p ∧ v = .ref p.1 := fun i v hv => by
        have z : xs.toList[i]? = some v := (Array.getElem?_toList).trans hv
        rw [hx, List.getElem?_map] at z
        obtain ⟨p, hp, rfl⟩ := Option.map_eq_some_iff.mp z
        exact ⟨p, hp, rfl⟩
      have free_ : ∀ b, s.heap.objs.size ≤ b → s.heap.get? b = none := fun b hb => Heap.get?_none_of_le hb
      refine set_runU ((Walks.list calm3 _ a ne_ xs).toS) s.heap.objs.size out_ ks size_ few vals s.heap tups (free_ _ (Nat.le_refl _))
        (fun b hb => free_ b (by rw [List.mem_singleton.mp hb, Heap.size_push]; exact Nat.le_succ _)) room (xs.size - 0) 0 _ (by omega) (Nat.zero_le _)
        ⟨⟨_, Heap.get?_push_size _ rfl, rfl, rfl⟩, (at2.push _)⟩ (fun b o e => Heap.get?_push_of_some _ (Heap.get?_push_of_some _ e)) ⟨[], #[], 0, _, setU_fresh (Heap.get?_push_of_some _ new_), Got.zero ks⟩ fun s3 L es ep t mv R g2 kp => ?_
      obtain ⟨g, gn, dr, tk, os⟩ := s3
      obtain rfl : gn = s.gens := mv.gens
      obtain rfl : dr = s.drawn := mv.drawn
      obtain rfl : os = s.os := mv.os
      rw [size_] at g2
      exact show wpAny _ _ _ _ _ _ from wpAny_pure (show wpAny _ _ (ret Value.none) _ _ _ from wpAny_pure ⟨rfl, g, tk, L, es, ep, t, rfl, R, g2, kp⟩)
    · cases r2 with
      | error e => exact hr2
      | ok fl2 =>
      cases fl2 with
      | ret v =>
        obtain ⟨rfl, g, tk, L, es, ep, t, rfl, R, g2, kp⟩ := hr2
        repeat (any_goals (first | assumption | wp_step))
        exact go _ _ _ _ _ _ R g2 kp
      | _ => exact hr2.elim
  | _ => exact hr.elim
end
section
open PySem.W PySem.SeqAt
theorem reads_key {P : Program} {w : World} {h : Heap} {k : List Int} {b : Addr} (x : IsT P w h k b) : Reads h (.ref b) (.tuple (k.map .int)) [] := by
  obtain ⟨o, items, n, ho, hc, hd, hi⟩ := x
  have z : ∀ {k : List Int} {us : List Value}, ItemsAre (intKind P w) k us → ReadsAll h us (k.map .int) [] := by
    intro k us hi
    induction hi with
    | nil => exact .nil
    | cons h1 _ ih =>
      obtain ⟨tk, rfl⟩ := Value.isInt_shape h1
      exact .cons (as := []) (.int _ _) ih
  exact .tuple ho hc hd (z hi)
theorem perm_lift {α β : Type} {f : α → β} {us ws : List β} (h : us.Perm ws) : ∀ {M : List α}, ws = M.map f → ∃ l : List α, us = l.map f ∧ l.Perm M := by
  induction h with
  | nil => exact fun {M} e => ⟨[], rfl, by cases M with
    | nil => exact .nil
    | cons a M => cases e⟩
  | cons x _ ih =>
    intro M e
    cases M with
    | nil => cases e
    | cons a M =>
      obtain ⟨e1, e2⟩ := List.cons.inj e
      obtain ⟨l, k1, k2⟩ := ih e2
      exact ⟨a :: l, by rw [List.map_cons, e1, k1], k2.cons a⟩
  | swap x y l =>
    intro M e
    match M, e with
    | a :: c :: M, e =>
      obtain ⟨e1, e2⟩ := List.cons.inj e
      obtain ⟨e2, e3⟩ := List.cons.inj e2
      exact ⟨c :: a :: M, by rw [List.map_cons, List.map_cons, e1, e2, e3], .swap a c M⟩
  | trans _ _ ih1 ih2 =>
    intro M e
    obtain ⟨l, k1, k2⟩ := ih2 e
    obtain ⟨l2, k3, k4⟩ := ih1 k1
    exact ⟨l2, k3, k4.trans k2⟩
theorem each_refs : ∀ {us : List Value} {M : List (Addr × List Int)}, EachIs (fun v q => v = Value.ref q.1) us M → us = M.map fun q => Value.ref q.1
  | _, _, .nil => rfl
  | _, _, .cons h t => by rw [h, each_refs t]; rfl
theorem alikeAll_intsK : ∀ a b : List Int, PySem.W.alikeAll (a.map PyData.int) (b.map PyData.int) = true
  | [], _ => by simp [PySem.W.alikeAll]
  | a :: as, [] => by simp [PySem.W.alikeAll]
  | a :: as, b :: bs => by simp [PySem.W.alikeAll, PySem.W.alike, alikeAll_intsK as bs]
theorem code_list {B : Int} : ∀ {n m : List Int}, n.length = m.length → TS.Bd B n → TS.Bd B m → TS.code B n < TS.code B m → n < m
  | [], [], _, _, _, h => absurd h (Int.lt_irrefl _)
  | [], _ :: _, h, _, _, _ => by simp at h
  | _ :: _, [], h, _, _, _ => by simp at h
  | d :: r, e :: q, h, h1, h2, a => by
    have hl : r.length = q.length := by simpa using h
    rcases Int.lt_trichotomy d e with c | c | c
    · exact List.cons_lt_cons_iff.mpr (.inl c)
    · subst c
      exact List.cons_lt_cons_iff.mpr (.inr ⟨rfl, code_list hl h1.tail h2.tail ((TS.code_same hl).mp a)⟩)
    · have := TS.code_lt hl.symm h2.tail h1.tail c
      omega
section
variable {P : Program} {w : World} {A : Around} {E : Value → Shared → Prop} {s : Shared} {b : Addr} {M : List (Addr × List Int)} {xs : Array (Int × Value)} {ep : Nat} {t : SetTable}
def encK (q : Addr × List Int) : PyData := .tuple (q.2.map .int)
theorem dataLe_encK (p q : Addr × List Int) : PySem.W.dataLe false encK p q = decide (p.2 ≤ q.2) := by
  show (!PySem.W.dataLt (.tuple (q.2.map .int)) (.tuple (p.2.map .int))) = _
  rw [PySem.W.dataLt_tuple]
  show (!PySem.W.rowLt (q.2.map .int) (p.2.map .int)) = _
  rw [PySem.W.dataLt_ints]
  by_cases h : q.2 < p.2
  · simp [h, show ¬ p.2 ≤ q.2 from fun r => List.not_lt.mpr r h]
  · simp [h, show p.2 ≤ q.2 from List.not_lt.mp h]
theorem sortK_pw (l : List (Addr × List Int)) : (l.mergeSort (PySem.W.dataLe false encK)).Pairwise fun p q => p.2 ≤ q.2 := by
  have h := List.pairwise_mergeSort (le := PySem.W.dataLe false encK) (fun a b c h1 h2 => by
    rw [dataLe_encK, decide_eq_true_eq] at *
    exact List.le_trans h1 h2) (fun a b => by
    rw [dataLe_encK, dataLe_encK, Bool.or_eq_true, decide_eq_true_eq, decide_eq_true_eq]
    exact List.le_total _ _) l
  exact h.imp fun {p q} z => by rwa [dataLe_encK, decide_eq_true_eq] at z
/-- sorted(a set of tuples of d numbers below B) -/
theorem sorted_setU (R : SetU P w s.heap b M xs ep t) (calm : A.handled = none) (low : A.units + 64 < cLine) {d : Nat} {B : Int} (one : 1 ≤ d) (bd : ∀ q ∈ M, q.2.length = d ∧ TS.Bd B q.2) {Q : Value → Shared → Prop}
    (go : ∀ s' p (out : Array Value) (c : Nat) (M' : List (Addr × List Int)), (∀ a o, s.heap.get? a = some o → s'.heap.get? a = some o) → s'.gens = s.gens → s'.os = s.os → s.heap.objs.size ≤ p →
      s'.heap.get? p = some (seqObj "list" out c) → out.toList = M'.map (fun q => Value.ref q.1) → M'.Perm M → M'.Pairwise (fun q r => TS.code B q.2 ≤ TS.code B r.2) → Q (.ref p) s') :
    wpAny (model P w) A (call (.builtin "sorted") [.ref b]) Q E s := by
  obtain ⟨o, ho, ex, hd⟩ := R.obj
  have sz := R.len
  have lim : M.length < 77 := by
    have := R.rm
    rcases R.tb.mok with e | e | e <;> omega
  refine Calls.call_function_entry kind_sorted plain_sorted entry_sorted (args_sorted1 _) ?_
  unfold Builtin.«sorted»
  refine wpAny_bind (m := checkCount "sorted" 1 1 _) (wpAny_pure (wpAny_bind (collect_set (A := A.in1) calm ⟨o, ho, ex.1, hd⟩ R.ok (by unfold scanBound; omega) R.tb.ris R.ldd fun s1 vs k1 grow g1 o1 pm => ?_)))
  have vals : xs.toList.map (·.2) = M.map fun q => Value.ref q.1 := by
    rw [R.rs]
    simp [L2.rowsOf]
  rw [vals] at pm
  obtain ⟨M1, rfl, pM⟩ : ∃ M1 : List (Addr × List Int), vs = M1.map (fun q => Value.ref q.1) ∧ M1.Perm M := by
    obtain ⟨l, h1, h2⟩ := perm_lift pm (M := M) rfl
    exact ⟨l, h1, h2⟩
  have lv : (M1.map fun q => Value.ref q.1).length < 77 := by rw [List.length_map, pM.length_eq]; exact lim
  refine wpAny_bind (wpAny_newList ?_ (by rw [sizeLine_eq]; omega))
  have hL : (s1.heap.push (seqObj "list" (M1.map fun q => Value.ref q.1).toArray 0)).get? s1.heap.objs.size = some (seqObj "list" (M1.map fun q => Value.ref q.1).toArray 0) := Heap.get?_push_size _ rfl
  have each : EachIs (fun v q => v = Value.ref q.1) (M1.map fun q => Value.ref q.1) M1 := by
    clear lv hL pm pM
    induction M1 with
    | nil => exact .nil
    | cons q M1 ih => exact .cons rfl ih
  have reads : ∀ {N : List (Addr × List Int)}, (∀ q ∈ N, q ∈ M) → EachIs (fun v q => ∃ as, Reads (s1.heap.push (seqObj "list" (M1.map fun q => Value.ref q.1).toArray 0)) v (encK q) as ∧ s1.heap.objs.size ∉ as) (N.map fun q => Value.ref q.1) N := by
    intro N
    induction N with
    | nil => exact fun _ => .nil
    | cons q N ih => exact fun h => .cons ⟨[], reads_key (isT_keep (R.tp q (h q (List.mem_cons_self ..))) fun a u e => Heap.get?_push_of_some _ (k1 a u e)), by simp⟩ (ih fun r hr => h r (List.mem_cons_of_mem _ hr))
  have low2 : ∀ q ∈ M1, (A.in1.units + 1 + (encK q).depth : Nat) < cLine := fun q _ => by
    have : (encK q).depth ≤ 1 := by
      unfold encK
      rw [PyData.depth, PySem.W.depth_ints]
      exact Nat.le_refl 1
    show A.units + 1 + 1 + _ < _
    omega
  refine wpAny_bind (wpAny_holding (PySem.W.list_sort_data (s := { s1 with heap := s1.heap.push (seqObj "list" (M1.map fun q => Value.ref q.1).toArray 0) }) (bs := M1) (enc := encK) (R := fun v q => v = Value.ref q.1) hL each
    (reads fun q hq => pM.mem_iff.mp hq) (PySem.W.AllAlike.of fun p q => by show PySem.W.alike (.tuple _) (.tuple _) = true; simp [PySem.W.alike, alikeAll_intsK]) (.inl fun y hy => ?_) (by rw [sizeLine_eq]; rw [List.length_map] at lv; omega) low2 fun out hl eo => ?_))
  · obtain ⟨q, hq, rfl⟩ := List.mem_map.mp hy
    have := (bd q (pM.mem_iff.mp hq)).1
    unfold encK
    match q.2, this with
    | [], z => simp only [List.length_nil] at z; omega
    | i :: r, _ => exact ⟨.int i, r.map .int, rfl⟩
  · obtain ⟨c, hc⟩ := sortedHeap_at (vs := M1.map fun q => Value.ref q.1) (out := out.toArray) hL
    have out_ : out = (M1.mergeSort (PySem.W.dataLe false encK)).map fun q => Value.ref q.1 := each_refs eo
    have pM2 := (List.mergeSort_perm M1 (PySem.W.dataLe false encK)).trans pM
    refine wpAny_pure ⟨_, rfl, go _ s1.heap.objs.size out.toArray c (M1.mergeSort (PySem.W.dataLe false encK)) (fun a u e => ?_) g1 o1 grow hc (by simpa using out_) pM2 ?_⟩
    · have q := k1 a u e
      have lt_ := Heap.lt_size q
      show (sortedHeap (s1.heap.push (seqObj "list" _ 0)) s1.heap.objs.size _ _).get? a = some u
      rw [sortedHeap_old (Nat.ne_of_lt lt_) (by rw [size_push']; exact Nat.lt_succ_of_lt lt_)]
      exact Heap.get?_push_of_some _ q
    · refine (sortK_pw M1).imp_of_mem fun {p q} hp hq le => Int.not_lt.mp fun lt => ?_
      obtain ⟨p1, p2⟩ := bd p (pM2.mem_iff.mp hp)
      obtain ⟨q1, q2⟩ := bd q (pM2.mem_iff.mp hq)
      exact List.not_lt.mpr le (code_list (q1.trans p1.symm) q2 p2 lt)
end
end
section
variable {P : Program} {w : World} {A : Around} {E : Value → Shared → Prop} {s : Shared}
theorem set_ofUT {a : Addr} {xs : Array Value} (ks : List (Addr × List Int)) {Q : Value → Shared → Prop} (calm : A.handled = none) (at_ : s.heap.IsTuple a xs) (hx : xs.toList = ks.map fun p => Value.ref p.1)
    (tups : ∀ p ∈ ks, IsT P w s.heap p.2 p.1) (few : FewV ks) (room : A.units + 3 < cLine)
    (go : ∀ (g : Heap) (tk : Nat) L es ep t, SetU P w g s.heap.objs.size L es ep t → Got ks ks.length L → (∀ b o, s.heap.get? b = some o → g.get? b = some o) → Q (.ref s.heap.objs.size) { s with heap := g, toks := tk }) :
    wpAny (model P w) A (call (.type "set") [.ref a]) Q E s := by
  have size_ : xs.size = ks.length := by
    rw [← Array.length_toList, hx, List.length_map]
  obtain ⟨c0, tl, m1⟩ := PySem.F.called_set.mro
  have m2 := PySem.F.called_set.made
  have m3 := PySem.F.called_set.sub
  have m4 := PySem.F.called_set.notType
  have m5 := PySem.F.called_set.canCreate
  have m6 := PySem.F.typeCall_set_1 (.ref a)
  refine wpAny_call (codeAny_of_tree (show wpAny _ _ (callAny (.type "set") _) _ _ _ from wpAny_pure ⟨Code.quiet_builtin _ (by decide +kernel), codeAny_builtin PySem.F.entry_type_call ?_⟩))
  rw [Around.under_plain (weight_type_call_type "set" [.ref a] []) rfl]
  repeat (any_goals (first | assumption | wp_step))
  refine codeAny_mono (code_set_led1 (.ref a) (E := E) (Q₁ := fun v s2 => v = .ref s.heap.objs.size ∧ s2 = { s with heap := s.heap.push (set0 w) }) ⟨rfl, rfl⟩) fun r s1 hr => ?_
  cases r with
  | error e => exact hr
  | ok fl =>
  cases fl with
  | ret v =>
    obtain ⟨rfl, rfl⟩ := hr
    have new_ : (s.heap.push (set0 w)).get? s.heap.objs.size = some (set0 w) := Heap.get?_push_size _ rfl
    have ty_ : Shared.TypeIs { s with heap := s.heap.push (set0 w) } (.ref s.heap.objs.size) "set" := ⟨_, new_, rfl⟩
    have l1 := PySem.F.called_set.init.lookup
    have l2 := PySem.F.called_set.init.bind (.ref s.heap.objs.size)
    repeat (any_goals (first | assumption | wp_step))
    refine codeAny_mono (codeAny_call_builtin (R := wants (fun r s2 => r = .none ∧ ∃ g tk L es ep t, s2 = { s with heap := g, toks := tk } ∧ SetU P w g s.heap.objs.size L es ep t ∧ Got ks ks.length L ∧ (∀ b o, s.heap.get? b = some o → g.get? b = some o)) E) PySem.F.called_set.init.plain PySem.F.entry_set_init (check_set_init_1 ty_ ?_)) fun r2 s2 hr2 => ?_
    · obtain ⟨⟨cl, dd, dt, sl⟩, ho, hc, n, hd⟩ := at_
      simp only at hc hd
      subst hc hd
      have ho2 : (s.heap.push (set0 w)).get? a = some { cls := .type "tuple", dict := dd, data := .seq xs n, slots := sl } := Heap.get?_push_of_some _ ho
      have f1 := PySem.F.sub_tuple_set
      have f2 := PySem.F.sub_tuple_frozenset
      have f3 : (Value.type "tuple" == Value.type "dict") = false := by decide
      have at2 : (s.heap.push (set0 w)).IsTuple a xs := ⟨_, ho2, rfl, n, rfl⟩
      have lt_ : a < s.heap.objs.size := Heap.lt_size ho
      unfold Builtin.«set.__init__» noKeywords Builtin.Frozenset.updateFrom
      generalize hIt : pyIter = It
      wp_walk
      subst hIt
      refine wpAny_pyIter_tuple at2 (wpAny_bind (wpAny_runValue ?_))
      have calm3 : A.in1.in1.in1.handled = none := by simp [calm]
      have ne_ : a ≠ (s.heap.push (set0 w)).objs.size := by
        rw [Heap.size_push]
        exact Nat.ne_of_lt (Nat.lt_succ_of_lt lt_)
      have out_ : s.heap.objs.size ∉ [(s.heap.push (set0 w)).objs.size, a] := by
        rw [Heap.size_push]
        intro z
        rcases List.mem_cons.mp z with z | z
        · exact absurd z (Nat.ne_of_lt (Nat.lt_succ_self _))
        · exact absurd (List.mem_singleton.mp z) (Nat.ne_of_gt lt_)
      have vals : ∀ (i : Nat) (v : Value), xs[i]? = some v → ∃ p, ks[i]? = some p ∧ v = .ref p.1 := fun i v hv => by
        have z : xs.toList[i]? = some v := (Array.getElem?_toList).trans hv
        rw [hx, List.getElem?_map] at z
        obtain ⟨p, hp, rfl⟩ := Option.map_eq_some_iff.mp z
        exact ⟨p, hp, rfl⟩
      have free_ : ∀ b, s.heap.objs.size ≤ b → s.heap.get? b = none := fun b hb => Heap.get?_none_of_le hb
      refine set_runU ((Walks.tuple calm3 _ a ne_ xs).toS) s.heap.objs.size out_ ks size_ few vals s.heap tups (free_ _ (Nat.le_refl _))
        (fun b hb => free_ b (by rw [List.mem_singleton.mp hb, Heap.size_push]; exact Nat.le_succ _)) room (xs.size - 0) 0 _ (by omega) (Nat.zero_le _)
        ⟨⟨_, Heap.get?_push_size _ rfl, rfl, rfl⟩, (at2.push _)⟩ (fun b o e => Heap.get?_push_of_some _ (Heap.get?_push_of_some _ e)) ⟨[], #[], 0, _, setU_fresh (Heap.get?_push_of_some _ new_), Got.zero ks⟩ fun s3 L es ep t mv R g2 kp => ?_
      obtain ⟨g, gn, dr, tk, os⟩ := s3
      obtain rfl : gn = s.gens := mv.gens
      obtain rfl : dr = s.drawn := mv.drawn
      obtain rfl : os = s.os := mv.os
      rw [size_] at g2
      exact show wpAny _ _ _ _ _ _ from wpAny_pure (show wpAny _ _ (ret Value.none) _ _ _ from wpAny_pure ⟨rfl, g, tk, L, es, ep, t, rfl, R, g2, kp⟩)
    · cases r2 with
      | error e => exact hr2
      | ok fl2 =>
      cases fl2 with
      | ret v =>
        obtain ⟨rfl, g, tk, L, es, ep, t, rfl, R, g2, kp⟩ := hr2
        repeat (any_goals (first | assumption | wp_step))
        exact go _ _ _ _ _ _ R g2 kp
      | _ => exact hr2.elim
  | _ => exact hr.elim
end

/-- the set at b, without the tuples themselves -/
structure SetU0 (P : Program) (w : World) (g : Heap) (b : Addr) (M : List (Addr × List Int)) : Prop where
  is_ : ∃ (xs : Array (Int × Value)) (ep : Nat) (t : SetTable), (∃ o, g.get? b = some o ∧ o.ExactSet ∧ o.data = .set xs ep t) ∧ ∀ g' : Heap, (∃ o, g'.get? b = some o ∧ o.ExactSet ∧ o.data = .set xs ep t) → (∀ q ∈ M, IsT P w g' q.2 q.1) → SetU P w g' b M xs ep t
def SetUO (P : Program) (w : World) (b : Addr) (M : List (Addr × List Int)) : HO := .ext fun g => SetU0 P w g b M
theorem SetU.base {P : Program} {w : World} {g : Heap} {b : Addr} {M : List (Addr × List Int)} {xs : Array (Int × Value)} {ep : Nat} {t : SetTable} (R : SetU P w g b M xs ep t) : SetU0 P w g b M :=
  ⟨xs, ep, t, R.obj, fun g' h1 h2 => ⟨h1, R.rs, R.tb, R.un, h2, R.pln, R.ldd, R.rm⟩⟩
theorem SetU0.fill {P : Program} {w : World} {g : Heap} {b : Addr} {M : List (Addr × List Int)} (R : SetU0 P w g b M) (ht : ∀ q ∈ M, IsT P w g q.2 q.1) : ∃ xs ep t, SetU P w g b M xs ep t := by
  obtain ⟨xs, ep, t, h1, h2⟩ := R.is_
  exact ⟨xs, ep, t, h2 g h1 ht⟩
theorem setUO_new {P : Program} {w : World} {H : Hp} {g : Heap} {b : Addr} {M : List (Addr × List Int)} (R : SetU0 P w g b M) : ObjOk P w H g b (SetUO P w b M) := by
  have ⟨_, _, _, ⟨o, ho, _⟩, _⟩ := R.is_
  refine ⟨R, ⟨o, ho⟩, fun h1 h2 p k => ?_⟩
  have ⟨xs', ep', t', ⟨o', ho', r'⟩, q'⟩ := SetU0.is_ p
  exact ⟨xs', ep', t', ⟨o', k o' ho', r'⟩, q'⟩
def rSetU (K : PySem.W.Frag) (P : Program) (w : World) (sq : Hp → Addr → List V → Prop) : List V → Hp → VK → Prop := fun xs H Q => ∃ (l : Addr) (ks : List (Addr × List Int)), xs = [V.ref l] ∧ sq H l (ks.map fun p => V.ref p.1) ∧ (∀ p ∈ ks, SqT K H p.1 (p.2.map V.int)) ∧ FewV ks ∧
  ∀ a L, H a = none → (∀ p ∈ L, p ∈ ks) → (∀ p ∈ ks, p.2 ∈ L.map (·.2)) → Q (.ref a) (upd H a (SetUO P w a L))
theorem cr_setLstU {X : Cx} (hc : X.calm = true) (hu : X.A.units + 64 < cLine) : CallR X (.type "set") (rSetU X.K X.prog X.w (SqL X.K)) := by
  intro pins s σ H xs us Q I r h
  obtain ⟨l, ks, rfl, hl, hk, hf, q⟩ := h
  rw [Vals.ref1 r]
  obtain ⟨its, rv, pl, _⟩ := I.list hl
  refine set_ofU (P := X.prog) (w := X.w) ks (I.ok.hd hc) pl.isList (by simpa using refs_of_vals rv) (fun p hp => I.isT (hk p hp)) hf (by omega) fun g tk L es ep t R g2 k => ?_
  exact ⟨.ref s.heap.objs.size, upd H s.heap.objs.size (SetUO X.prog X.w s.heap.objs.size L), I.laid (t' := tk) k (Nat.le_refl _) (setUO_new R.base), rfl, q _ L (I.hok.fresh (Nat.le_refl _)) (fun p hp => List.mem_of_mem_take (g2.sub p hp)) fun p hp => g2.all p (by rw [List.take_length]; exact hp)⟩
theorem cr_setTupU {X : Cx} (hc : X.calm = true) (hu : X.A.units + 64 < cLine) : CallR X (.type "set") (rSetU X.K X.prog X.w (SqT X.K)) := by
  intro pins s σ H xs us Q I r h
  obtain ⟨l, ks, rfl, hl, hk, hf, q⟩ := h
  rw [Vals.ref1 r]
  obtain ⟨its, rv, isT, _⟩ := I.tuple hl
  refine set_ofUT (P := X.prog) (w := X.w) ks (I.ok.hd hc) isT (by simpa using refs_of_vals rv) (fun p hp => I.isT (hk p hp)) hf (by omega) fun g tk L es ep t R g2 k => ?_
  exact ⟨.ref s.heap.objs.size, upd H s.heap.objs.size (SetUO X.prog X.w s.heap.objs.size L), I.laid (t' := tk) k (Nat.le_refl _) (setUO_new R.base), rfl, q _ L (I.hok.fresh (Nat.le_refl _)) (fun p hp => List.mem_of_mem_take (g2.sub p hp)) fun p hp => g2.all p (by rw [List.take_length]; exact hp)⟩
theorem cr_setU {X : Cx} (hc : X.calm = true) (hu : X.A.units + 64 < cLine) : CallR X (.type "set") (fun xs H Q => rSetU X.K X.prog X.w (SqL X.K) xs H Q ∨ rSetU X.K X.prog X.w (SqT X.K) xs H Q) := fun pins s σ H xs us Q I r h => h.elim (cr_setLstU hc hu pins s σ H xs us Q I r) (cr_setTupU hc hu pins s σ H xs us Q I r)
def rSortedU (K : PySem.W.Frag) (P : Program) (w : World) : List V → Hp → VK → Prop := fun vs H Q => ∃ (a : Addr) (L : List (Addr × List Int)) (d : Nat) (B : Int), vs = [V.ref a] ∧ H a = some (SetUO P w a L) ∧ (∀ p ∈ L, SqT K H p.1 (p.2.map V.int)) ∧ 1 ≤ d ∧
  (∀ p ∈ L, p.2.length = d ∧ TS.Bd B p.2) ∧
  ∀ (L' : List (Addr × List Int)) (p : Addr), L'.Perm L → (L'.map (·.2)).Nodup → L'.Pairwise (fun q r => TS.code B q.2 ≤ TS.code B r.2) → H p = none → Q (.ref p) (upd H p (.lst (L'.map fun q => V.ref q.1)))
theorem cr_sortedU {X : Cx} (hc : X.calm = true) (hu : X.A.units + 64 < cLine) : CallR X (.builtin "sorted") (rSortedU X.K X.prog X.w) := by
  intro pins s σ H vs us Q I r h
  obtain ⟨a, L, d, B, rfl, ha, hk, hd, hB, q⟩ := h
  have R0 : SetU0 X.prog X.w s.heap a L := (I.hok a _ ha).1
  obtain ⟨es, ep, t, R⟩ := R0.fill fun p hp => I.isT (hk p hp)
  rw [Vals.ref1 r]
  refine sorted_setU R (I.ok.hd hc) hu hd hB fun s' p out c L' k g o hp hg hout pm pw => ?_
  have low : L.length < 77 := by
    have := R.rm
    rcases R.tb.mok with e | e | e <;> omega
  have hlen : (L'.map fun q => V.ref q.1).length ≤ sizeLine := by rw [List.length_map, sizeLine_eq, pm.length_eq]; omega
  have free_ : H p = none := I.hok.fresh hp
  have J : Inv X pins σ (upd H p (.lst (L'.map fun q => V.ref q.1))) { s with heap := s'.heap, gens := s'.gens, drawn := s'.drawn, toks := s'.toks } :=
    I.call (ch := []) (Un.laid k hp free_) (I.hok.laid k hp ⟨hlen, out.toList, c, by rw [hout]; exact vals_of_refs L', hg⟩) (by rw [g]; exact I.bare) (fun _ z => nomatch z)
  have e : s' = { s with heap := s'.heap, gens := s'.gens, drawn := s'.drawn, toks := s'.toks } := by
    cases s'; cases s; cases o; rfl
  rw [e]
  exact ⟨.ref p, _, J, rfl, q L' p pm ((pm.map (·.2)).nodup_iff.mpr R.un) pw free_⟩
variable [TabsT]
theorem fewV_of {ks : List (Addr × List Int)} (h : (ddp (ks.map (·.2))).length < 75) : FewV ks := fun L hL hn => by
  have := nodup_leU (ddp (ks.map (·.2))) (L.map (·.2)) hn fun k hk => by
    obtain ⟨p, hp, rfl⟩ := List.mem_map.mp hk
    exact mem_ddp.mpr (List.mem_map.mpr ⟨p, hL p hp, rfl⟩)
  rw [List.length_map] at this
  omega
section
/-- behind the set -/
theorem set_tailU {K : PySem.W.Frag} {P : Program} {w : World} {σ : St} {H0 S0 H1 S1 : Hp} {e0 e1 : Env} {W : WX} {Q : VK} {L : List (Addr × List Int)} (A1 : Abs K σ H1 S1 e1) (E1 : Ext σ e0 H0 S0 σ e1 H1 S1) (hL : ∀ p ∈ L, S1 p.1 = some (.tup (p.2.map V.int))) (hok : keysOk (L.map (·.2)) = true)
    (g1 : Goal K W σ H0 S0 e0 (vAt K σ H0) (.ok (.new (.lst ((ssL (L.map (·.2))).map tupI))) e1) Q) (b : Addr) (L1 : List (Addr × List Int)) (hb : H1 b = none) (s1 : ∀ p ∈ L1, p ∈ L) (s2 : ∀ p ∈ L, p.2 ∈ L1.map (·.2)) : rSortedU K P w [.ref b] (upd H1 b (SetUO P w b L1)) Q := by
  have sq : ∀ p ∈ L, SqT K H1 p.1 (p.2.map V.int) := fun p hp => .of (A1.sub _ _ (hL p hp))
  have bd : ∀ p ∈ L, p.2.length = ((L.map (·.2)).headD [0]).length ∧ 1 ≤ p.2.length ∧ TS.Bd 1000 p.2 := fun p hp => by
    have z := List.all_eq_true.mp hok p.2 (List.mem_map.mpr ⟨p, hp, rfl⟩)
    simp only [Bool.and_eq_true, decide_eq_true_eq, List.all_eq_true] at z
    exact ⟨z.1.1, z.1.2, fun m hm => z.2 m hm⟩
  have up : ∀ p ∈ L, SqT K (upd H1 b (SetUO P w b L1)) p.1 (p.2.map V.int) := fun p hp => sqT_same (same_upd hb) (sq p hp)
  have one : 1 ≤ ((L.map (·.2)).headD [0]).length := by
    cases L with
    | nil => decide
    | cons p L => exact (bd p (List.mem_cons_self ..)).2.1
  refine ⟨b, L1, ((L.map (·.2)).headD [0]).length, 1000, rfl, upd_same, fun p hp => up p (s1 p hp), one, fun p hp => ⟨(bd p (s1 p hp)).1, (bd p (s1 p hp)).2.2⟩, fun L2 c pm nd pw hc' => ?_⟩
  have mem2 : ∀ p ∈ L2, p ∈ L := fun p hp => s1 p (pm.mem_iff.mp hp)
  have eq : L2.map (·.2) = ssL (L.map (·.2)) := by
    have pm2 : (L2.map (·.2)).Perm (ssL (L.map (·.2))) := by
      refine List.Perm.trans ?_ (List.mergeSort_perm _ _).symm
      refine (List.perm_ext_iff_of_nodup nd nodup_ddp).mpr fun k => ?_
      rw [mem_ddp]
      constructor
      · intro hk
        obtain ⟨p, hp, rfl⟩ := List.mem_map.mp hk
        exact List.mem_map.mpr ⟨p, mem2 p hp, rfl⟩
      · intro hk
        obtain ⟨p, hp, rfl⟩ := List.mem_map.mp hk
        exact (pm.map (·.2)).mem_iff.mpr (s2 p hp)
    have inL : ∀ k ∈ L2.map (·.2), ∃ p ∈ L, p.2 = k := fun k hk => by
      obtain ⟨p, hp, rfl⟩ := List.mem_map.mp hk
      exact ⟨p, mem2 p hp, rfl⟩
    refine List.Perm.eq_of_pairwise (le := fun a b => TS.code 1000 a ≤ TS.code 1000 b) (fun x y hx hy h1 h2 => ?_) (List.pairwise_map.mpr pw) ?_ pm2
    · obtain ⟨p, hp, rfl⟩ := inL x hx
      obtain ⟨q, hq, rfl⟩ := inL y (pm2.mem_iff.mpr hy)
      exact code_anti ((bd p hp).1.trans (bd q hq).1.symm) (bd p hp).2.2 (bd q hq).2.2 h1 h2
    · exact (ssL_sorted _)
  have sb : S1 b = none := A1.sub.free hb
  have A2 := abs_new (o := SetUO P w b L1) A1 hb
  have E2 := E1.trans (ext_new (σ := σ) (e := e1) (S := S1) (o := SetUO P w b L1) hb)
  refine fin_lst A2 E2 ?_ hc' g1
  rw [← eq]
  have rep : ∀ {M : List (Addr × List Int)}, (∀ p ∈ M, p ∈ L) → RepL K S1 ((M.map (·.2)).map tupI) (M.map fun q => V.ref q.1) := by
    intro M
    induction M with
    | nil => exact fun _ => .nil
    | cons p M ih => exact fun h => .cons (tupI_mk (hL p (h p (List.mem_cons_self ..)))) (ih fun q hq => h q (List.mem_cons_of_mem _ hq))
  exact rep mem2
end
/-- sorted(set(xs)), xs a list with few unlike items, or a tuple of fewer than 64 -/
def setV5 (v : Val) : M Val := fun e => match vwD e v with
  | some (.tup xs) => (match intsDs xs with
    | some ks => if keysOk ks = true ∧ (ddp ks).length < 75 then .ok (.new (.lst ((ssL ks).map tupI))) e else .bad
    | none => .bad)
  | some a => if isTupD a = false ∧ isSeq a = true then (match intsDs (itsD a) with
    | some ks => if keysOk ks = true ∧ (ddp ks).length < 75 then .ok (.new (.lst ((ssL ks).map tupI))) e else .bad
    | none => .bad) else .bad
  | none => .bad
section
variable {X : Cx} {W : WX} {p p2 pos pos2 : Pos} {a : Expr} {fa : M Val}
theorem de_sortSet5 (hc : X.calm = true) (hu : X.A.units + 64 < cLine) (hm : X.mg "sorted" = none) (hm2 : X.mg "set" = none) (ha : DE X W a fa) (hg : Gl X "sorted" := by rfl) (hg2 : Gl X "set" := by rfl) (na : starEach [a] X.env = (false, eval a X.env) :: starEach [] X.env := by rfl)
    (nb : starEach [.Call (.Name "set" p2) [a] [] pos2] X.env = (false, eval (.Call (.Name "set" p2) [a] [] pos2) X.env) :: starEach [] X.env := by rfl) :
    DE X W (.Call (.Name "sorted" p) [.Call (.Name "set" p2) [a] [] pos2] [] pos) (M.bind fa setV5) :=
  ⟨PE.weak (pe_callB (cr_sortedU hc hu) hg hm (by decide +kernel) (pa_cons (pe_callTy (cr_setU hc hu) hg2 hm2 (by decide +kernel) (pa_cons ha.pe pa_nil na) (by decide) (by decide) na rfl) pa_nil nb) (by decide) (by decide) nb rfl) fun σ H Q ⟨S, e, A, g⟩ => by
    refine tDx.step A Ext.refl g fun v e1 H1 S1 w A1 E1 _ hv g1 => ?_
    unfold setV5 at g1
    split at g1
    · rename_i xs q
      split at g1
      · rename_i ks hks
        split at g1
        · rename_i hok
          obtain ⟨l, us, rfl, k1, k2⟩ := rep_tupS.mp (show Rep X.K S1 (.tup xs) w from hv.view A1 q)
          rw [intsDs_eq hks] at k2
          obtain ⟨L, rfl, rfl, hL⟩ := keys_at k2
          exact .inr ⟨l, L, rfl, .of (A1.sub _ _ k1), fun p hp => .of (A1.sub _ _ (hL p hp)), fewV_of hok.2, fun b L1 hb s1 s2 => set_tailU A1 E1 hL hok.1 g1 b L1 hb s1 s2⟩
        · exact g1.elim
      · exact g1.elim
    · rename_i d hnt q
      split at g1
      · rename_i hcond
        obtain ⟨c1, c2⟩ := hcond
        split at g1
        · rename_i ks hks
          split at g1
          · rename_i hok
            obtain ⟨l, us, rfl, k1, k2⟩ := lst_rep A1.sub c1 c2 (hv.view A1 q)
            rw [intsDs_eq hks] at k2
            obtain ⟨L, rfl, rfl, hL⟩ := keys_at k2
            exact .inl ⟨l, L, rfl, k1, fun p hp => .of (A1.sub _ _ (hL p hp)), fewV_of hok.2, fun b L1 hb s1 s2 => set_tailU A1 E1 hL hok.1 g1 b L1 hb s1 s2⟩
          · exact g1.elim
        · exact g1.elim
      · exact g1.elim
    · exact g1.elim⟩
end
end DL

set_option maxHeartbeats 4000000
namespace My
open PySem PySem.Spec PyProof.Rows L2 DL
variable [TabsT]
def top (i : Nat) : Stmt := PySem.Challenge.pw_makefirst_k08_whole_batches_sorted_by_la.main.body.getD i (.Pass ⟨0, 0, 0, 0⟩)
abbrev s_is_integer : Stmt := top 9
abbrev s_is_number : Stmt := top 10
abbrev s_is_below : Stmt := top 11
abbrev s_is_within : Stmt := top 12
abbrev s_is_sequence : Stmt := top 13
abbrev s_check_columns : Stmt := top 15
abbrev s_is_values : Stmt := top 16
abbrev s_is_check : Stmt := top 17
abbrev s_told_check : Stmt := top 18
abbrev s_Book___init__ : Stmt := inCls 0 (top 19)
abbrev s_kinds_of : Stmt := top 20
abbrev s_is_kind : Stmt := top 21
abbrev s_check_kinds : Stmt := top 22
abbrev s_told_kinds : Stmt := top 24
abbrev s_lots_set : Stmt := top 25
abbrev s_row_set : Stmt := top 26
abbrev s_places_of : Stmt := top 27
abbrev s_barred_lots : Stmt := top 28
abbrev s_unlike_pairs : Stmt := top 29
abbrev s_all_unlike : Stmt := top 30
abbrev s_first_bar : Stmt := top 31
abbrev s_layers_and_rest : Stmt := top 32
abbrev s_layers_of : Stmt := top 33
abbrev s__law_box : Stmt := top 35
abbrev s__law_take : Stmt := top 36
abbrev s__law_pick : Stmt := top 37
abbrev s__law_mixed : Stmt := top 38
abbrev s__law_kinds : Stmt := top 39
abbrev s__law_rows : Stmt := top 40
abbrev s__law_lots : Stmt := top 41
abbrev s__law_set : Stmt := top 42
abbrev s__law_between : Stmt := top 43
abbrev s__law_hull : Stmt := top 44
abbrev s__law_book : Stmt := top 45
abbrev s__law_good : Stmt := top 46
abbrev s__law_store : Stmt := top 47
abbrev s__law_states : Stmt := top 48
abbrev s__law_sorted : Stmt := top 49
abbrev s__law_way_right : Stmt := top 50
abbrev s_law : Stmt := top 51
end My

set_option maxHeartbeats 0
namespace My
open PySem PySem.Spec PyProof.Rows L2 DL
def d_is_integer : He.DefD := ⟨("is_integer", none), "is_integer", "is_integer", defArgs s_is_integer, defBody s_is_integer, defScope s_is_integer, [], []⟩
def d_is_number : He.DefD := ⟨("is_number", none), "is_number", "is_number", defArgs s_is_number, defBody s_is_number, defScope s_is_number, [], []⟩
def d_is_below : He.DefD := ⟨("is_below", none), "is_below", "is_below", defArgs s_is_below, defBody s_is_below, defScope s_is_below, [], []⟩
def d_is_within : He.DefD := ⟨("is_within", none), "is_within", "is_within", defArgs s_is_within, defBody s_is_within, defScope s_is_within, [], []⟩
def d_is_sequence : He.DefD := ⟨("is_sequence", none), "is_sequence", "is_sequence", defArgs s_is_sequence, defBody s_is_sequence, defScope s_is_sequence, [], []⟩
def d_check_columns : He.DefD := ⟨("check_columns", none), "check_columns", "check_columns", defArgs s_check_columns, defBody s_check_columns, defScope s_check_columns, [], []⟩
def d_is_values : He.DefD := ⟨("is_values", none), "is_values", "is_values", defArgs s_is_values, defBody s_is_values, defScope s_is_values, [], []⟩
def d_is_check : He.DefD := ⟨("is_check", none), "is_check", "is_check", defArgs s_is_check, defBody s_is_check, defScope s_is_check, [], []⟩
def d_told_check : He.DefD := ⟨("told_check", none), "told_check", "told_check", defArgs s_told_check, defBody s_told_check, defScope s_told_check, [], []⟩
def d_Book___init__ : He.DefD := ⟨("Book", some "__init__"), "__init__", "Book.__init__", defArgs s_Book___init__, defBody s_Book___init__, defScope s_Book___init__, [.adr (He.dflAt ("Book", some "__init__") 0)], []⟩
def d_kinds_of : He.DefD := ⟨("kinds_of", none), "kinds_of", "kinds_of", defArgs s_kinds_of, defBody s_kinds_of, defScope s_kinds_of, [], []⟩
def d_is_kind : He.DefD := ⟨("is_kind", none), "is_kind", "is_kind", defArgs s_is_kind, defBody s_is_kind, defScope s_is_kind, [], []⟩
def d_check_kinds : He.DefD := ⟨("check_kinds", none), "check_kinds", "check_kinds", defArgs s_check_kinds, defBody s_check_kinds, defScope s_check_kinds, [], []⟩
def d_told_kinds : He.DefD := ⟨("told_kinds", none), "told_kinds", "told_kinds", defArgs s_told_kinds, defBody s_told_kinds, defScope s_told_kinds, [], []⟩
def d_lots_set : He.DefD := ⟨("lots_set", none), "lots_set", "lots_set", defArgs s_lots_set, defBody s_lots_set, defScope s_lots_set, [], []⟩
def d_row_set : He.DefD := ⟨("row_set", none), "row_set", "row_set", defArgs s_row_set, defBody s_row_set, defScope s_row_set, [], []⟩
def d_places_of : He.DefD := ⟨("places_of", none), "places_of", "places_of", defArgs s_places_of, defBody s_places_of, defScope s_places_of, [], []⟩
def d_barred_lots : He.DefD := ⟨("barred_lots", none), "barred_lots", "barred_lots", defArgs s_barred_lots, defBody s_barred_lots, defScope s_barred_lots, [], []⟩
def d_unlike_pairs : He.DefD := ⟨("unlike_pairs", none), "unlike_pairs", "unlike_pairs", defArgs s_unlike_pairs, defBody s_unlike_pairs, defScope s_unlike_pairs, [], []⟩
def d_all_unlike : He.DefD := ⟨("all_unlike", none), "all_unlike", "all_unlike", defArgs s_all_unlike, defBody s_all_unlike, defScope s_all_unlike, [], []⟩
def d_first_bar : He.DefD := ⟨("first_bar", none), "first_bar", "first_bar", defArgs s_first_bar, defBody s_first_bar, defScope s_first_bar, [], []⟩
def d_layers_and_rest : He.DefD := ⟨("layers_and_rest", none), "layers_and_rest", "layers_and_rest", defArgs s_layers_and_rest, defBody s_layers_and_rest, defScope s_layers_and_rest, [], []⟩
def d_layers_of : He.DefD := ⟨("layers_of", none), "layers_of", "layers_of", defArgs s_layers_of, defBody s_layers_of, defScope s_layers_of, [.non], []⟩
def d__law_box : He.DefD := ⟨("_law_box", none), "_law_box", "_law_box", defArgs s__law_box, defBody s__law_box, defScope s__law_box, [], []⟩
def d__law_take : He.DefD := ⟨("_law_take", none), "_law_take", "_law_take", defArgs s__law_take, defBody s__law_take, defScope s__law_take, [], []⟩
def d__law_pick : He.DefD := ⟨("_law_pick", none), "_law_pick", "_law_pick", defArgs s__law_pick, defBody s__law_pick, defScope s__law_pick, [], []⟩
def d__law_mixed : He.DefD := ⟨("_law_mixed", none), "_law_mixed", "_law_mixed", defArgs s__law_mixed, defBody s__law_mixed, defScope s__law_mixed, [], []⟩
def d__law_kinds : He.DefD := ⟨("_law_kinds", none), "_law_kinds", "_law_kinds", defArgs s__law_kinds, defBody s__law_kinds, defScope s__law_kinds, [], []⟩
def d__law_rows : He.DefD := ⟨("_law_rows", none), "_law_rows", "_law_rows", defArgs s__law_rows, defBody s__law_rows, defScope s__law_rows, [], []⟩
def d__law_lots : He.DefD := ⟨("_law_lots", none), "_law_lots", "_law_lots", defArgs s__law_lots, defBody s__law_lots, defScope s__law_lots, [], []⟩
def d__law_set : He.DefD := ⟨("_law_set", none), "_law_set", "_law_set", defArgs s__law_set, defBody s__law_set, defScope s__law_set, [], []⟩
def d__law_between : He.DefD := ⟨("_law_between", none), "_law_between", "_law_between", defArgs s__law_between, defBody s__law_between, defScope s__law_between, [], []⟩
def d__law_hull : He.DefD := ⟨("_law_hull", none), "_law_hull", "_law_hull", defArgs s__law_hull, defBody s__law_hull, defScope s__law_hull, [], []⟩
def d__law_book : He.DefD := ⟨("_law_book", none), "_law_book", "_law_book", defArgs s__law_book, defBody s__law_book, defScope s__law_book, [], []⟩
def d__law_good : He.DefD := ⟨("_law_good", none), "_law_good", "_law_good", defArgs s__law_good, defBody s__law_good, defScope s__law_good, [], []⟩
def d__law_store : He.DefD := ⟨("_law_store", none), "_law_store", "_law_store", defArgs s__law_store, defBody s__law_store, defScope s__law_store, [], []⟩
def d__law_states : He.DefD := ⟨("_law_states", none), "_law_states", "_law_states", defArgs s__law_states, defBody s__law_states, defScope s__law_states, [], []⟩
def d__law_sorted : He.DefD := ⟨("_law_sorted", none), "_law_sorted", "_law_sorted", defArgs s__law_sorted, defBody s__law_sorted, defScope s__law_sorted, [], []⟩
def d__law_way_right : He.DefD := ⟨("_law_way_right", none), "_law_way_right", "_law_way_right", defArgs s__law_way_right, defBody s__law_way_right, defScope s__law_way_right, [], []⟩
def d_law : He.DefD := ⟨("law", none), "law", "law", defArgs s_law, defBody s_law, defScope s_law, [], []⟩
def er : List ErD := ([] : List ErD)
def FILE : PySem.Str := PySem.Challenge.rw_makefirst_k08_whole_batches_sorted_by_la.prog.main.file
def fn : List He.DefD := ([d_is_integer, d_is_number, d_is_below, d_is_within, d_is_sequence, d_check_columns, d_is_values, d_is_check, d_told_check, d_Book___init__, d_kinds_of, d_is_kind, d_check_kinds, d_told_kinds, d_lots_set, d_row_set, d_places_of, d_barred_lots, d_unlike_pairs, d_all_unlike, d_first_bar, d_layers_and_rest, d_layers_of, d__law_box, d__law_take, d__law_pick, d__law_mixed, d__law_kinds, d__law_rows, d__law_lots] : List He.DefD) ++ ([d__law_set, d__law_between, d__law_hull, d__law_book, d__law_good, d__law_store, d__law_states, d__law_sorted, d__law_way_right, d_law] : List He.DefD)
def fa : List He.Fa := ([.glo "is_integer", .glo "is_number", .glo "is_below", .glo "is_within", .glo "is_sequence", .glo "check_columns", .glo "is_values", .glo "is_check", .glo "told_check", .glo "kinds_of", .glo "is_kind", .glo "check_kinds", .glo "told_kinds", .glo "lots_set", .glo "row_set", .glo "places_of", .glo "barred_lots", .glo "unlike_pairs", .glo "all_unlike", .glo "first_bar", .glo "layers_and_rest", .glo "layers_of", .glo "_law_box", .glo "_law_take", .glo "_law_pick", .glo "_law_mixed", .glo "_law_kinds", .glo "_law_rows", .glo "_law_lots", .glo "_law_set"] : List He.Fa) ++ ([.glo "_law_between", .glo "_law_hull", .glo "_law_book", .glo "_law_good", .glo "_law_store", .glo "_law_states", .glo "_law_sorted", .glo "_law_way_right", .glo "law", .glo "Book", .mkr "Book", .int "MOST_COLUMNS" 4, .int "MOST_VALUES" 4, .int "MOST_CHECKS" 6, .int "MOST_PLACES" 3, .free "len", .free "isinstance", .free "int", .free "bool", .free "list", .free "tuple", .free "str", .free "all", .free "any", .free "range", .free "enumerate", .free "zip", .free "sorted", .free "set", .free "repr"] : List He.Fa) ++ ([.free "abs", .free "sum", .cls "Book", .noat "Book" "columns", .noat "Book" "checks"] : List He.Fa)
abbrev R : PySem.W.OpenRow := PySem.W.OpenLaw.row PySem.Challenge.rw_makefirst_k08_whole_batches_sorted_by_la
abbrev hk : PySem.W.Hook := hookX FILE 6 fa fn er
def ob (s : PySem.W.SharedT) : AlX := obsXG FILE 6 fa fn er (HandSHeadRun.getT s)
theorem ob_eq (s : PySem.W.SharedT) : ob s = hk.obs s.abs := obsXG_eq (HandSHeadRun.getT_eq s)
def loose : List PySem.Str := (["BatchError", "BadBook", "Refused", "MOST_COLUMNS", "MOST_VALUES", "MOST_CHECKS", "MOST_PLACES", "is_integer", "is_number", "is_below", "is_within", "is_sequence", "check_columns", "is_values", "is_check", "told_check", "Book", "kinds_of", "is_kind", "check_kinds", "told_kinds", "lots_set", "row_set", "places_of", "barred_lots", "unlike_pairs", "all_unlike", "first_bar", "layers_and_rest", "layers_of"] : List PySem.Str) ++ (["_law_box", "_law_take", "_law_pick", "_law_mixed", "_law_kinds", "_law_rows", "_law_lots", "_law_set", "_law_between", "_law_hull", "_law_book", "_law_good", "_law_store", "_law_states", "_law_sorted", "_law_way_right"] : List PySem.Str)
theorem run (w : World) : HandSHeadRun.RunEq R (PySem.W.view R.prog [51]) hk ob 6000 loose w := by
  intro os
  kernel_rfl
end My

set_option maxHeartbeats 0
namespace My
open PySem PySem.Spec PyProof.Rows L2 DL
theorem joinA (hc : PySem.W.WalkO (PySem.W.view R.prog [51]) loose (PySem.W.XL (PySem.W.view R.prog [51]) []) hk.says R.toRowW (HandSHeadRun.topDef R.prog 51) [] (fun f vs => PySem.call f vs)) : (PySem.Challenge.rw_makefirst_k08_whole_batches_sorted_by_la).Holds := by
  w_on; o_law
  refine HandSHeadRun.head_any (r := R) (q := PySem.W.view R.prog [51]) (H := hk) (ob := ob) (M := 6000) (loose := loose) (d := HandSHeadRun.topDef R.prog 51) (kwd := []) ob_eq
    (by kernel_rfl) (fun s => by kernel_rfl) run (by kernel_rfl) (by kernel_rfl) (by kernel_rfl) (by rfl) (by first | assumption | decide +kernel) (by decide +kernel) ⟨rfl, rfl, rfl, rfl, rfl, by decide +kernel⟩ ?hw hc
  case hw => w_witness2
theorem law_args : (HandSHeadRun.topDef R.prog 51).params.defaults = [] := by kernel_rfl
theorem law_name : (HandSHeadRun.topDef (PySem.W.OpenLaw.row PySem.Challenge.rw_makefirst_k08_whole_batches_sorted_by_la).prog 51).name = ("law" : PySem.Str) := by kernel_rfl
theorem law_file : (PySem.Challenge.rw_makefirst_k08_whole_batches_sorted_by_la).prog.main.file = FILE := by first | rfl | kernel_rfl
theorem law_super : ((PySem.Challenge.rw_makefirst_k08_whole_batches_sorted_by_la).prog.main.scope.names.lookup ("super" : PySem.Str)).isSome = false := by first | rfl | kernel_rfl | decide +kernel
end My

set_option maxHeartbeats 4000000
namespace My
open PySem PySem.Spec PyProof.Rows L2 DL
variable [TabsT]
structure Txt (K : PySem.W.Frag) (mg : Str → Option Value) : Prop where
  f_len : mg "len" = none
  f_isinstance : mg "isinstance" = none
  f_int : mg "int" = none
  f_bool : mg "bool" = none
  f_list : mg "list" = none
  f_tuple : mg "tuple" = none
  f_str : mg "str" = none
  f_all : mg "all" = none
  f_any : mg "any" = none
  f_range : mg "range" = none
  f_enumerate : mg "enumerate" = none
  f_zip : mg "zip" = none
  f_sorted : mg "sorted" = none
  f_set : mg "set" = none
  f_repr : mg "repr" = none
  f_abs : mg "abs" = none
  f_sum : mg "sum" = none
  i_MOST_COLUMNS : ∃ t, mg "MOST_COLUMNS" = some (.int 4 t)
  i_MOST_VALUES : ∃ t, mg "MOST_VALUES" = some (.int 4 t)
  i_MOST_CHECKS : ∃ t, mg "MOST_CHECKS" = some (.int 6 t)
  i_MOST_PLACES : ∃ t, mg "MOST_PLACES" = some (.int 3 t)
  fld_columns : ∀ c ∈ (["Book"] : List Str), Cls K (He.ga K c) ∧ NoAttr K (He.ga K c) "columns"
  fld_checks : ∀ c ∈ (["Book"] : List Str), Cls K (He.ga K c) ∧ NoAttr K (He.ga K c) "checks"
section
variable {P : Program} {w : World} {K : PySem.W.Frag} {mg : Str → Option Value} {base : Heap}
abbrev N_is_integer : List Str := ["value"]
theorem sc_is_integer : FnScope N_is_integer ["value"] (defScope s_is_integer) := ⟨rfl, rfl, rfl, by decide +kernel, rfl, by decide +kernel, by decide +kernel⟩
def m_is_integer : M Val := runF 1 1 (sRet 1 (dAnd (dCall isC (aCons (dVar 0) (aCons (dC (.ty "int")) aNil))) (dUn notV (dCall isC (aCons (dVar 0) (aCons (dC (.ty "bool")) aNil))))))
theorem ok_is_integer {fd : FuncData} (F : FunD K "is_integer" "is_integer" (defArgs s_is_integer) (defBody s_is_integer) (defScope s_is_integer) [] [] (He.ga K "is_integer") fd) (hm : mg "is_integer" = some (.ref (He.ga K "is_integer"))) (T : Txt K mg)  : Callee P w K mg base "is_integer" 1 ["value"] m_is_integer :=
  ⟨fd, hm, F.kp, F.bindsN (fun _ _ _ _ _ _ us hl => match us, hl with | [_], _ => rfl), dfn_ok F sc_is_integer (by decide) fun cdv A outer s H E hr => (dss_one (ds_ret (de_and (dbi T.f_isinstance call_isi isCD (da_cons (dv 0) (da_cons (dtyN T.f_int) da_nil))) (de_one (de_not (dbi T.f_isinstance call_isi isCD (da_cons (dv 0) (da_cons (dtyN T.f_bool) da_nil))))))))⟩
abbrev N_is_number : List Str := ["value"]
theorem sc_is_number : FnScope N_is_number ["value"] (defScope s_is_number) := ⟨rfl, rfl, rfl, by decide +kernel, rfl, by decide +kernel, by decide +kernel⟩
def m_is_number : M Val := runF 1 1 (sRet 1 (dAnd (dFn m_is_integer [] (aCons (dVar 0) aNil)) (dBin geV (dVar 0) (dC (.int 0)))))
theorem ok_is_number {fd : FuncData} (F : FunD K "is_number" "is_number" (defArgs s_is_number) (defBody s_is_number) (defScope s_is_number) [] [] (He.ga K "is_number") fd) (hm : mg "is_number" = some (.ref (He.ga K "is_number"))) (T : Txt K mg) (C_is_integer : Callee P w K mg base "is_integer" 1 ["value"] m_is_integer) : Callee P w K mg base "is_number" 2 ["value"] m_is_number :=
  ⟨fd, hm, F.kp, F.bindsN (fun _ _ _ _ _ _ us hl => match us, hl with | [_], _ => rfl), dfn_ok F sc_is_number (by decide) fun cdv A outer s H E hr => (dss_one (ds_ret (de_and (dcall C_is_integer (hr.mono (by decide)) tk_def (da_cons (dv 0) da_nil)) (de_one (de_cmp op_ge geD (dv 0) de_int (nomark _))))))⟩
abbrev N_is_below : List Str := ["value", "most"]
theorem sc_is_below : FnScope N_is_below ["value", "most"] (defScope s_is_below) := ⟨rfl, rfl, rfl, by decide +kernel, rfl, by decide +kernel, by decide +kernel⟩
def m_is_below : M Val := runF 2 2 (sRet 2 (dAnd (dFn m_is_number [] (aCons (dVar 0) aNil)) (dBin ltV (dVar 0) (dVar 1))))
theorem ok_is_below {fd : FuncData} (F : FunD K "is_below" "is_below" (defArgs s_is_below) (defBody s_is_below) (defScope s_is_below) [] [] (He.ga K "is_below") fd) (hm : mg "is_below" = some (.ref (He.ga K "is_below"))) (T : Txt K mg) (C_is_number : Callee P w K mg base "is_number" 2 ["value"] m_is_number) : Callee P w K mg base "is_below" 3 ["value", "most"] m_is_below :=
  ⟨fd, hm, F.kp, F.bindsN (fun _ _ _ _ _ _ us hl => match us, hl with | [_, _], _ => rfl), dfn_ok F sc_is_below (by decide) fun cdv A outer s H E hr => (dss_one (ds_ret (de_and (dcall C_is_number (hr.mono (by decide)) tk_def (da_cons (dv 0) da_nil)) (de_one (de_cmp op_lt ltD (dv 0) (dv 1) (nomark _))))))⟩
abbrev N_is_within : List Str := ["value", "least", "most"]
theorem sc_is_within : FnScope N_is_within ["value", "least", "most"] (defScope s_is_within) := ⟨rfl, rfl, rfl, by decide +kernel, rfl, by decide +kernel, by decide +kernel⟩
def m_is_within : M Val := runF 3 3 (sRet 3 (dAnd (dFn m_is_integer [] (aCons (dVar 0) aNil)) (dChain cLe cLe (dVar 1) (dVar 0) (dVar 2))))
theorem ok_is_within {fd : FuncData} (F : FunD K "is_within" "is_within" (defArgs s_is_within) (defBody s_is_within) (defScope s_is_within) [] [] (He.ga K "is_within") fd) (hm : mg "is_within" = some (.ref (He.ga K "is_within"))) (T : Txt K mg) (C_is_integer : Callee P w K mg base "is_integer" 1 ["value"] m_is_integer) : Callee P w K mg base "is_within" 2 ["value", "least", "most"] m_is_within :=
  ⟨fd, hm, F.kp, F.bindsN (fun _ _ _ _ _ _ us hl => match us, hl with | [_, _, _], _ => rfl), dfn_ok F sc_is_within (by decide) fun cdv A outer s H E hr => (dss_one (ds_ret (de_and (dcall C_is_integer (hr.mono (by decide)) tk_def (da_cons (dv 0) da_nil)) (de_one (de_chain op_le op_le (dv 1) (dv 0) (dv 2))))))⟩
abbrev N_is_sequence : List Str := ["value"]
theorem sc_is_sequence : FnScope N_is_sequence ["value"] (defScope s_is_sequence) := ⟨rfl, rfl, rfl, by decide +kernel, rfl, by decide +kernel, by decide +kernel⟩
def m_is_sequence : M Val := runF 1 1 (sRet 1 (dUn (isT ["list", "tuple"]) (dVar 0)))
theorem ok_is_sequence {fd : FuncData} (F : FunD K "is_sequence" "is_sequence" (defArgs s_is_sequence) (defBody s_is_sequence) (defScope s_is_sequence) [] [] (He.ga K "is_sequence") fd) (hm : mg "is_sequence" = some (.ref (He.ga K "is_sequence"))) (T : Txt K mg)  : Callee P w K mg base "is_sequence" 1 ["value"] m_is_sequence :=
  ⟨fd, hm, F.kp, F.bindsN (fun _ _ _ _ _ _ us hl => match us, hl with | [_], _ => rfl), dfn_ok F sc_is_sequence (by decide) fun cdv A outer s H E hr => (dss_one (ds_ret (de_isT (ns := ["list", "tuple"]) rfl T.f_isinstance (dv 0) (pa_tyc rfl T.f_list (by decide +kernel) (pa_tyc rfl T.f_tuple (by decide +kernel) pa_ty0)))))⟩
abbrev N_check_columns : List Str := ["value", "many"]
theorem sc_check_columns : FnScope N_check_columns ["value"] (defScope s_check_columns) := ⟨rfl, rfl, rfl, by decide +kernel, rfl, by decide +kernel, by decide +kernel⟩
def m_check_columns : M Val := runF 1 2 (sSeq (sIf (tOrB (tNotB (dAsk (dFn m_is_sequence [] (aCons (dVar 0) aNil)))) (tNotB (dAsk (dChain cLe cLe (dC (.int 1)) (dCall (fn1 lenF) (aCons (dVar 0) aNil)) (dC (.int 4)))))) sBad sNx)
  (sSeq (sIf (tNotB (dAsk (dCall (fn1 allF) (aCons (dComp (iVal (dVar 0)) [1] (gN 1) tT (dFn m_is_within [] (aCons (dVar 1) (aCons (dC (.int 1)) (aCons (dC (.int 4)) aNil))))) aNil)))) sBad sNx)
  (sRet 1 (dCall (tupC) (aCons (dVar 0) aNil)))))
theorem ok_check_columns {fd : FuncData} (F : FunD K "check_columns" "check_columns" (defArgs s_check_columns) (defBody s_check_columns) (defScope s_check_columns) [] [] (He.ga K "check_columns") fd) (hm : mg "check_columns" = some (.ref (He.ga K "check_columns"))) (T : Txt K mg) (C_is_sequence : Callee P w K mg base "is_sequence" 1 ["value"] m_is_sequence) (C_is_within : Callee P w K mg base "is_within" 2 ["value", "least", "most"] m_is_within) : Callee P w K mg base "check_columns" 3 ["value"] m_check_columns :=
  ⟨fd, hm, F.kp, F.bindsN (fun _ _ _ _ _ _ us hl => match us, hl with | [_], _ => rfl), dfn_ok F sc_check_columns (by decide) fun cdv A outer s H E hr => (dss_cons (ds_if (DW.dt (dw_or (dt_not (dt_val (dcall C_is_sequence (hr.mono (by decide)) tk_def (da_cons (dv 0) da_nil)))) (dw_or1 (dt_not (dt_chain op_le op_le de_int (dbi T.f_len call_len lenD (da_cons (dv 0) da_nil)) (dgi T.i_MOST_COLUMNS)))))) (dss_one ds_never) dss_nil)
  (dss_cons (ds_if (dt_not (dt_val (dbi T.f_all (cr_all rfl) allD (da_cons (de_comp (own := [("many", 1)]) rfl sc_check_columns.nd (di_val (dv 0)) (blkOk_by (N := N_check_columns) (sc := defScope s_check_columns) (by decide +kernel)) (fun _ _ _ _ _ => (dg_name (i := 1) rfl sc_check_columns.nd rfl (Or.inl rfl))) (fun _ _ _ _ _ => dts_nil) (fun _ _ _ _ _ => (dcall C_is_within (hr.mono (by decide)) L2.takes0 (da_cons (dv 1) (da_cons de_int (da_cons (dgi T.i_MOST_VALUES) da_nil)))))) da_nil)))) (dss_one ds_never) dss_nil)
  (dss_one (ds_ret (dty T.f_tuple call_tuple_of tupD (da_cons (dv 0) da_nil))))))⟩
abbrev N_is_values : List Str := ["value", "many", "one", "most"]
theorem sc_is_values : FnScope N_is_values ["value", "many"] (defScope s_is_values) := ⟨rfl, rfl, rfl, by decide +kernel, rfl, by decide +kernel, by decide +kernel⟩
def m_is_values : M Val := runF 2 4 (sSeq (sIf (tOrB (tNotB (dAsk (dFn m_is_sequence [] (aCons (dVar 0) aNil)))) (dAsk (dBin neV (dCall (fn1 lenF) (aCons (dVar 0) aNil)) (dCall (fn1 lenF) (aCons (dVar 1) aNil))))) (sRet 2 (dC (.bl false))) sNx)
  (sRet 2 (dCall (fn1 allF) (aCons (dComp (M.bind (fCons (dVar 0) (fCons (dVar 1) fNil)) zip2F) [2, 3] (gT ((gN 2) :: ((gN 3) :: []))) tT (dFn m_is_below [] (aCons (dVar 2) (aCons (dVar 3) aNil)))) aNil))))
theorem ok_is_values {fd : FuncData} (F : FunD K "is_values" "is_values" (defArgs s_is_values) (defBody s_is_values) (defScope s_is_values) [] [] (He.ga K "is_values") fd) (hm : mg "is_values" = some (.ref (He.ga K "is_values"))) (T : Txt K mg) (C_is_sequence : Callee P w K mg base "is_sequence" 1 ["value"] m_is_sequence) (C_is_below : Callee P w K mg base "is_below" 3 ["value", "most"] m_is_below) : Callee P w K mg base "is_values" 4 ["value", "many"] m_is_values :=
  ⟨fd, hm, F.kp, F.bindsN (fun _ _ _ _ _ _ us hl => match us, hl with | [_, _], _ => rfl), dfn_ok F sc_is_values (by decide) fun cdv A outer s H E hr => (dss_cons (ds_if (DW.dt (dw_or (dt_not (dt_val (dcall C_is_sequence (hr.mono (by decide)) tk_def (da_cons (dv 0) da_nil)))) (dw_or1 (dt_cmp (op_neD (hu64 hr)) neD (dbi T.f_len call_len lenD (da_cons (dv 0) da_nil)) (dbi T.f_len call_len lenD (da_cons (dv 1) da_nil)) (nomark _))))) (dss_one (ds_ret de_bl)) dss_nil)
  (dss_one (ds_ret (dbi T.f_all (cr_all rfl) allD (da_cons (de_comp (own := [("one", 2), ("most", 3)]) rfl sc_is_values.nd (di_zip2 rfl T.f_zip (df_cons (dv 0) (df_cons (dv 1) df_nil))) (blkOk_by (N := N_is_values) (sc := defScope s_is_values) (by decide +kernel)) (fun _ _ _ _ _ => (dg_tup rfl (dgs_cons (dg_name (i := 2) rfl sc_is_values.nd rfl (Or.inl rfl)) (dgs_cons (dg_name (i := 3) rfl sc_is_values.nd rfl (Or.inl rfl)) dgs_nil)) rfl)) (fun _ _ _ _ _ => dts_nil) (fun _ _ _ _ _ => (dcall C_is_below (hr.mono (by decide)) L2.takes0 (da_cons (dv 2) (da_cons (dv 3) da_nil))))) da_nil)))))⟩
abbrev N_is_check : List Str := ["columns", "value", "places", "rows", "place", "row"]
theorem sc_is_check : FnScope N_is_check ["columns", "value"] (defScope s_is_check) := ⟨rfl, rfl, rfl, by decide +kernel, rfl, by decide +kernel, by decide +kernel⟩
def m_is_check : M Val := runF 2 6 (sSeq (sIf (tOrB (tNotB (dAsk (dFn m_is_sequence [] (aCons (dVar 1) aNil)))) (tOrB (dAsk (dBin neV (dCall (fn1 lenF) (aCons (dVar 1) aNil)) (dC (.int 2)))) (tOrB (tNotB (dAsk (dFn m_is_sequence [] (aCons (dBin ixV (dVar 1) (dC (.int 0))) aNil)))) (tNotB (dAsk (dFn m_is_sequence [] (aCons (dBin ixV (dVar 1) (dC (.int 1))) aNil))))))) (sRet 2 (dC (.bl false))) sNx)
  (sSeq (sAsg (gT ((gN 2) :: ((gN 3) :: []))) (dVar 1))
  (sSeq (sIf (tOrB (tNotB (dAsk (dChain cLe cLe (dC (.int 1)) (dCall (fn1 lenF) (aCons (dVar 2) aNil)) (dC (.int 3))))) (tNotB (dAsk (dCall (fn1 allF) (aCons (dComp (iVal (dVar 2)) [4] (gN 4) tT (dFn m_is_below [] (aCons (dVar 4) (aCons (dCall (fn1 lenF) (aCons (dVar 0) aNil)) aNil)))) aNil))))) (sRet 2 (dC (.bl false))) sNx)
  (sRet 2 (dCall (fn1 allF) (aCons (dComp (iVal (dVar 3)) [5] (gN 5) tT (dFn m_is_values [] (aCons (dVar 5) (aCons (dComp (iVal (dVar 2)) [4] (gN 4) tT (dBin ixV (dVar 0) (dVar 4))) aNil)))) aNil))))))
theorem ok_is_check {fd : FuncData} (F : FunD K "is_check" "is_check" (defArgs s_is_check) (defBody s_is_check) (defScope s_is_check) [] [] (He.ga K "is_check") fd) (hm : mg "is_check" = some (.ref (He.ga K "is_check"))) (T : Txt K mg) (C_is_sequence : Callee P w K mg base "is_sequence" 1 ["value"] m_is_sequence) (C_is_below : Callee P w K mg base "is_below" 3 ["value", "most"] m_is_below) (C_is_values : Callee P w K mg base "is_values" 4 ["value", "many"] m_is_values) : Callee P w K mg base "is_check" 5 ["columns", "value"] m_is_check :=
  ⟨fd, hm, F.kp, F.bindsN (fun _ _ _ _ _ _ us hl => match us, hl with | [_, _], _ => rfl), dfn_ok F sc_is_check (by decide) fun cdv A outer s H E hr => (dss_cons (ds_if (DW.dt (dw_or (dt_not (dt_val (dcall C_is_sequence (hr.mono (by decide)) tk_def (da_cons (dv 1) da_nil)))) (dw_or (dt_cmp (op_neD (hu64 hr)) neD (dbi T.f_len call_len lenD (da_cons (dv 1) da_nil)) de_int (nomark _)) (dw_or (dt_not (dt_val (dcall C_is_sequence (hr.mono (by decide)) tk_def (da_cons (de_ix (dv 1) de_int (fun _ _ => rfl)) da_nil)))) (dw_or1 (dt_not (dt_val (dcall C_is_sequence (hr.mono (by decide)) tk_def (da_cons (de_ix (dv 1) de_int (fun _ _ => rfl)) da_nil))))))))) (dss_one (ds_ret de_bl)) dss_nil)
  (dss_cons (ds_asg (dv 1) (dg_tup rfl (dgs_cons (dg_name (i := 2) rfl sc_is_check.nd rfl (Or.inr rfl)) (dgs_cons (dg_name (i := 3) rfl sc_is_check.nd rfl (Or.inl rfl)) dgs_nil)) rfl))
  (dss_cons (ds_if (DW.dt (dw_or (dt_not (dt_chain op_le op_le de_int (dbi T.f_len call_len lenD (da_cons (dv 2) da_nil)) (dgi T.i_MOST_PLACES))) (dw_or1 (dt_not (dt_val (dbi T.f_all (cr_all rfl) allD (da_cons (de_comp (own := [("place", 4)]) rfl sc_is_check.nd (di_val (dv 2)) (blkOk_by (N := N_is_check) (sc := defScope s_is_check) (by decide +kernel)) (fun _ _ _ _ _ => (dg_name (i := 4) rfl sc_is_check.nd rfl (Or.inl rfl))) (fun _ _ _ _ _ => dts_nil) (fun _ _ _ _ _ => (dcall C_is_below (hr.mono (by decide)) L2.takes0 (da_cons (dv 4) (da_cons (dbi T.f_len call_len lenD (da_cons (dv 0) da_nil)) da_nil))))) da_nil))))))) (dss_one (ds_ret de_bl)) dss_nil)
  (dss_one (ds_ret (dbi T.f_all (cr_all rfl) allD (da_cons (de_comp (own := [("row", 5)]) rfl sc_is_check.nd (di_val (dv 3)) (blkOk_by (N := N_is_check) (sc := defScope s_is_check) (by decide +kernel)) (fun _ _ _ _ _ => (dg_name (i := 5) rfl sc_is_check.nd rfl (Or.inl rfl))) (fun _ _ _ _ _ => dts_nil) (fun _ _ _ _ _ => (dcall C_is_values (hr.mono (by decide)) L2.takes0 (da_cons (dv 5) (da_cons (de_compI (own := [("place", 4)]) rfl sc_is_check.nd (di_val (dv 2)) (N := N_is_check) (scF := defScope s_is_check) rfl rfl (blkOk_by (by decide +kernel)) (fun _ _ _ _ _ => (dg_name (i := 4) rfl sc_is_check.nd rfl (Or.inl rfl))) (fun _ _ _ _ _ => dts_nil) (fun _ _ _ _ _ => (de_ix (dv 0) (dv 4) (fun _ _ => rfl)))) da_nil))))) da_nil)))))))⟩
abbrev N_told_check : List Str := ["value", "rows", "row"]
theorem sc_told_check : FnScope N_told_check ["value"] (defScope s_told_check) := ⟨rfl, rfl, rfl, by decide +kernel, rfl, by decide +kernel, by decide +kernel⟩
def m_told_check : M Val := runF 1 3 (sSeq (sSet 1 (dDc true (iVal (dBin ixV (dVar 0) (dC (.int 1)))) [2] (gN 2) tT (dCall (tupC) (aCons (dVar 2) aNil)) (dC (.bl true))))
  (sRet 1 (dTup (fCons (dCall (tupC) (aCons (dBin ixV (dVar 0) (dC (.int 0))) aNil)) (fCons (dCall (tupC) (aCons (dCall (sortC) (aCons (dCall (listC2) (aCons (dVar 1) aNil)) aNil)) aNil)) fNil)))))
theorem ok_told_check {fd : FuncData} (F : FunD K "told_check" "told_check" (defArgs s_told_check) (defBody s_told_check) (defScope s_told_check) [] [] (He.ga K "told_check") fd) (hm : mg "told_check" = some (.ref (He.ga K "told_check"))) (T : Txt K mg)  : Callee P w K mg base "told_check" 1 ["value"] m_told_check :=
  ⟨fd, hm, F.kp, F.bindsN (fun _ _ _ _ _ _ us hl => match us, hl with | [_], _ => rfl), dfn_ok F sc_told_check (by decide) fun cdv A outer s H E hr => (dss_cons (ds_setDc true (i := 1) (hu65 hr) (by decide) (own := [("row", 2)]) rfl sc_told_check.nd rfl rfl (sw_dct rfl rfl rfl (by decide +kernel)) (di_val (de_ix (dv 0) de_int (fun _ _ => rfl))) (blkOk_by (N := N_told_check) (sc := defScope s_told_check) (by decide +kernel)) (fun _ _ _ _ _ => (dg_name (i := 2) rfl sc_told_check.nd rfl (Or.inl rfl))) (fun _ _ _ _ _ => dts_nil) (fun _ _ _ _ _ => (dty T.f_tuple call_tuple_of tupD (da_cons (dv 2) da_nil))) (fun _ _ _ _ _ => de_bl))
  (dss_one (ds_ret (de_tup (df_cons (dty T.f_tuple call_tuple_of tupD (da_cons (de_ix (dv 0) de_int (fun _ _ => rfl)) da_nil)) (df_cons (dty T.f_tuple call_tuple_of tupD (da_cons (dbi T.f_sorted (call_sortD (hu64 hr)) sortCD (da_cons (dty T.f_list (call_list2 rfl) list2D (da_cons (dv 1) da_nil)) da_nil)) da_nil)) df_nil))))))⟩
abbrev N_Book___init__ : List Str := ["self", "columns", "checks", "at", "check"]
theorem sc_Book___init__ : FnScope N_Book___init__ ["self", "columns", "checks"] (defScope s_Book___init__) := ⟨rfl, rfl, rfl, by decide +kernel, rfl, by decide +kernel, by decide +kernel⟩
def m_Book___init__ : M Val := runF 3 5 (sSeq (sFldS ["Book"] "columns" (dFn m_check_columns [] (aCons (dVar 1) aNil)) (dVar 0))
  (sSeq (sIf (tOrB (tNotB (dAsk (dFn m_is_sequence [] (aCons (dVar 2) aNil)))) (dAsk (dBin gtV (dCall (fn1 lenF) (aCons (dVar 2) aNil)) (dC (.int 6))))) sBad sNx)
  (sSeq (sFor (M.bind (fCons (dVar 2) fNil) enF) (gT ((gN 3) :: ((gN 4) :: []))) (sIf (tNotB (dAsk (dFn m_is_check [] (aCons (dUn (fldV ["Book"] "columns") (dVar 0)) (aCons (dVar 4) aNil))))) sBad sNx))
  (sFldS ["Book"] "checks" (dCall (tupC) (aCons (dComp (iVal (dVar 2)) [4] (gN 4) tT (dFn m_told_check [] (aCons (dVar 4) aNil))) aNil)) (dVar 0)))))
theorem ok_Book___init__ {fd : FuncData} {f : Addr} {d0 : V} (F : FunD K "__init__" "Book.__init__" (defArgs s_Book___init__) (defBody s_Book___init__) (defScope s_Book___init__) [d0] [] f fd) (hm : mg "Book" = some (.ref (He.ga K "Book"))) (Mc : Mk K (He.ga K "Book") f) (T : Txt K mg) (C_check_columns : Callee P w K mg base "check_columns" 3 ["value"] m_check_columns) (C_is_sequence : Callee P w K mg base "is_sequence" 1 ["value"] m_is_sequence) (C_is_check : Callee P w K mg base "is_check" 5 ["columns", "value"] m_is_check) (C_told_check : Callee P w K mg base "told_check" 1 ["value"] m_told_check) : CalleeM P w K mg base "Book" 6 ["self", "columns", "checks"] m_Book___init__ :=
  ⟨f, fd, hm, Mc, binds_full F (by simp) (fun _ _ _ _ _ _ _ us its hl hl2 => match us, its, hl, hl2 with | [_, _, _], [_], _, _ => ⟨_, rfl, rfl⟩), dfn_ok F sc_Book___init__ (by decide) fun cdv A outer s H E hr => (dss_cons (ds_fld (dcall C_check_columns (hr.mono (by decide)) tk_def (da_cons (dv 1) da_nil)) (dv 0) T.fld_columns)
  (dss_cons (ds_if (DW.dt (dw_or (dt_not (dt_val (dcall C_is_sequence (hr.mono (by decide)) tk_def (da_cons (dv 2) da_nil)))) (dw_or1 (dt_cmp op_gt gtD (dbi T.f_len call_len lenD (da_cons (dv 2) da_nil)) (dgi T.i_MOST_CHECKS) (nomark _))))) (dss_one ds_never) dss_nil)
  (dss_cons (ds_for po_def rfl (di_enum rfl T.f_enumerate (df_cons (dv 2) df_nil)) (dg_tup rfl (dgs_cons (dg_name (i := 3) rfl sc_Book___init__.nd rfl (Or.inl rfl)) (dgs_cons (dg_name (i := 4) rfl sc_Book___init__.nd rfl (Or.inl rfl)) dgs_nil)) rfl) (dss_one (ds_if (dt_not (dt_val (dcall C_is_check (hr.mono (by decide)) tk_def (da_cons (de_fld (dv 0) T.fld_columns) (da_cons (dv 4) da_nil))))) (dss_one ds_never) dss_nil)))
  (dss_one (ds_fld (dty T.f_tuple call_tuple_of tupD (da_cons (de_comp (own := [("check", 4)]) rfl sc_Book___init__.nd (di_val (dv 2)) (blkOk_by (N := N_Book___init__) (sc := defScope s_Book___init__) (by decide +kernel)) (fun _ _ _ _ _ => (dg_name (i := 4) rfl sc_Book___init__.nd rfl (Or.inl rfl))) (fun _ _ _ _ _ => dts_nil) (fun _ _ _ _ _ => (dcall C_told_check (hr.mono (by decide)) L2.takes0 (da_cons (dv 4) da_nil)))) da_nil)) (dv 0) T.fld_checks)))))⟩
abbrev N_kinds_of : List Str := ["book", "found", "column", "many", "old", "new"]
theorem sc_kinds_of : FnScope N_kinds_of ["book"] (defScope s_kinds_of) := ⟨rfl, rfl, rfl, by decide +kernel, rfl, by decide +kernel, by decide +kernel⟩
def m_kinds_of : M Val := runF 1 6 (sSeq (sSet 1 (dLst fNil))
  (sSeq (sFor (M.bind (fCons (dUn (fldV ["Book"] "columns") (dVar 0)) fNil) enF) (gT ((gN 2) :: ((gN 3) :: []))) (sFor (M.bind (fCons (dVar 3) fNil) rng1) (gN 4) (sDrop (dMeth (lstM extF) (dVar 1) (fCons (dComp (M.bind (fCons (dVar 3) fNil) rng1) [5] (gN 5) (dAsk (dBin neV (dVar 5) (dVar 4))) (dTup (fCons (dVar 2) (fCons (dVar 4) (fCons (dVar 5) fNil))))) fNil)))))
  (sRet 1 (dCall (tupC) (aCons (dVar 1) aNil)))))
theorem ok_kinds_of {fd : FuncData} (F : FunD K "kinds_of" "kinds_of" (defArgs s_kinds_of) (defBody s_kinds_of) (defScope s_kinds_of) [] [] (He.ga K "kinds_of") fd) (hm : mg "kinds_of" = some (.ref (He.ga K "kinds_of"))) (T : Txt K mg)  : Callee P w K mg base "kinds_of" 1 ["book"] m_kinds_of :=
  ⟨fd, hm, F.kp, F.bindsN (fun _ _ _ _ _ _ us hl => match us, hl with | [_], _ => rfl), dfn_ok F sc_kinds_of (by decide) fun cdv A outer s H E hr => (dss_cons (ds_set (i := 1) (by decide) sc_kinds_of.nd rfl (Or.inl rfl) (de_lst df_nil))
  (dss_cons (ds_for po_def rfl (di_enum rfl T.f_enumerate (df_cons (de_fld (dv 0) T.fld_columns) df_nil)) (dg_tup rfl (dgs_cons (dg_name (i := 2) rfl sc_kinds_of.nd rfl (Or.inr rfl)) (dgs_cons (dg_name (i := 3) rfl sc_kinds_of.nd rfl (Or.inl rfl)) dgs_nil)) rfl) (dss_one (ds_for po_def rfl (di_range1 rfl T.f_range (df_cons (dv 3) df_nil)) (dg_name (i := 4) rfl sc_kinds_of.nd rfl (Or.inr rfl)) (dss_one (ds_expr (de_meth PySem.F.slot_list_extend PySem.F.type_list_extend mt_extend extD (dv 1) (df_cons (de_comp (own := [("new", 5)]) rfl sc_kinds_of.nd (di_range1 rfl T.f_range (df_cons (dv 3) df_nil)) (blkOk_by (N := N_kinds_of) (sc := defScope s_kinds_of) (by decide +kernel)) (fun _ _ _ _ _ => (dg_name (i := 5) rfl sc_kinds_of.nd rfl (Or.inl rfl))) (fun _ _ _ _ _ => (dts_one (dt_cmp (op_neD (hu64 hr)) neD (dv 5) (dv 4) (nomark _)))) (fun _ _ _ _ _ => (de_tup (df_cons (dv 2) (df_cons (dv 4) (df_cons (dv 5) df_nil)))))) df_nil)))))))
  (dss_one (ds_ret (dty T.f_tuple call_tuple_of tupD (da_cons (dv 1) da_nil))))))⟩
abbrev N_is_kind : List Str := ["book", "value", "many"]
theorem sc_is_kind : FnScope N_is_kind ["book", "value"] (defScope s_is_kind) := ⟨rfl, rfl, rfl, by decide +kernel, rfl, by decide +kernel, by decide +kernel⟩
def m_is_kind : M Val := runF 2 3 (sSeq (sIf (tOrB (tNotB (dAsk (dFn m_is_sequence [] (aCons (dVar 1) aNil)))) (tOrB (dAsk (dBin neV (dCall (fn1 lenF) (aCons (dVar 1) aNil)) (dC (.int 3)))) (tNotB (dAsk (dFn m_is_below [] (aCons (dBin ixV (dVar 1) (dC (.int 0))) (aCons (dCall (fn1 lenF) (aCons (dUn (fldV ["Book"] "columns") (dVar 0)) aNil)) aNil))))))) (sRet 2 (dC (.bl false))) sNx)
  (sSeq (sSet 2 (dBin ixV (dUn (fldV ["Book"] "columns") (dVar 0)) (dBin ixV (dVar 1) (dC (.int 0)))))
  (sRet 2 (dAnd (dFn m_is_below [] (aCons (dBin ixV (dVar 1) (dC (.int 1))) (aCons (dVar 2) aNil))) (dAnd (dFn m_is_below [] (aCons (dBin ixV (dVar 1) (dC (.int 2))) (aCons (dVar 2) aNil))) (dBin neV (dBin ixV (dVar 1) (dC (.int 1))) (dBin ixV (dVar 1) (dC (.int 2)))))))))
theorem ok_is_kind {fd : FuncData} (F : FunD K "is_kind" "is_kind" (defArgs s_is_kind) (defBody s_is_kind) (defScope s_is_kind) [] [] (He.ga K "is_kind") fd) (hm : mg "is_kind" = some (.ref (He.ga K "is_kind"))) (T : Txt K mg) (C_is_sequence : Callee P w K mg base "is_sequence" 1 ["value"] m_is_sequence) (C_is_below : Callee P w K mg base "is_below" 3 ["value", "most"] m_is_below) : Callee P w K mg base "is_kind" 4 ["book", "value"] m_is_kind :=
  ⟨fd, hm, F.kp, F.bindsN (fun _ _ _ _ _ _ us hl => match us, hl with | [_, _], _ => rfl), dfn_ok F sc_is_kind (by decide) fun cdv A outer s H E hr => (dss_cons (ds_if (DW.dt (dw_or (dt_not (dt_val (dcall C_is_sequence (hr.mono (by decide)) tk_def (da_cons (dv 1) da_nil)))) (dw_or (dt_cmp (op_neD (hu64 hr)) neD (dbi T.f_len call_len lenD (da_cons (dv 1) da_nil)) de_int (nomark _)) (dw_or1 (dt_not (dt_val (dcall C_is_below (hr.mono (by decide)) tk_def (da_cons (de_ix (dv 1) de_int (fun _ _ => rfl)) (da_cons (dbi T.f_len call_len lenD (da_cons (de_fld (dv 0) T.fld_columns) da_nil)) da_nil))))))))) (dss_one (ds_ret de_bl)) dss_nil)
  (dss_cons (ds_set (i := 2) (by decide) sc_is_kind.nd rfl (Or.inl rfl) (de_ix (de_fld (dv 0) T.fld_columns) (de_ix (dv 1) de_int (fun _ _ => rfl)) (fun _ _ => rfl)))
  (dss_one (ds_ret (de_and (dcall C_is_below (hr.mono (by decide)) tk_def (da_cons (de_ix (dv 1) de_int (fun _ _ => rfl)) (da_cons (dv 2) da_nil))) (de_and (dcall C_is_below (hr.mono (by decide)) tk_def (da_cons (de_ix (dv 1) de_int (fun _ _ => rfl)) (da_cons (dv 2) da_nil))) (de_one (de_cmp (op_neD (hu64 hr)) neD (de_ix (dv 1) de_int (fun _ _ => rfl)) (de_ix (dv 1) de_int (fun _ _ => rfl)) (nomark _)))))))))⟩
abbrev N_check_kinds : List Str := ["book", "value", "one"]
theorem sc_check_kinds : FnScope N_check_kinds ["book", "value"] (defScope s_check_kinds) := ⟨rfl, rfl, rfl, by decide +kernel, rfl, by decide +kernel, by decide +kernel⟩
def m_check_kinds : M Val := runF 2 3 (sSeq (sIf (tOrB (tNotB (dAsk (dFn m_is_sequence [] (aCons (dVar 1) aNil)))) (tNotB (dAsk (dCall (fn1 allF) (aCons (dComp (iVal (dVar 1)) [2] (gN 2) tT (dFn m_is_kind [] (aCons (dVar 0) (aCons (dVar 2) aNil)))) aNil))))) sBad sNx)
  (sRet 2 (dCall (tupC) (aCons (dCall (sortC) (aCons (dCall (listC2) (aOne (dDc true (iVal (dVar 1)) [2] (gN 2) tT (dCall (tupC) (aCons (dVar 2) aNil)) (dC (.bl true))))) aNil)) aNil))))
theorem ok_check_kinds {fd : FuncData} (F : FunD K "check_kinds" "check_kinds" (defArgs s_check_kinds) (defBody s_check_kinds) (defScope s_check_kinds) [] [] (He.ga K "check_kinds") fd) (hm : mg "check_kinds" = some (.ref (He.ga K "check_kinds"))) (T : Txt K mg) (C_is_sequence : Callee P w K mg base "is_sequence" 1 ["value"] m_is_sequence) (C_is_kind : Callee P w K mg base "is_kind" 4 ["book", "value"] m_is_kind) : Callee P w K mg base "check_kinds" 5 ["book", "value"] m_check_kinds :=
  ⟨fd, hm, F.kp, F.bindsN (fun _ _ _ _ _ _ us hl => match us, hl with | [_, _], _ => rfl), dfn_ok F sc_check_kinds (by decide) fun cdv A outer s H E hr => (dss_cons (ds_if (DW.dt (dw_or (dt_not (dt_val (dcall C_is_sequence (hr.mono (by decide)) tk_def (da_cons (dv 1) da_nil)))) (dw_or1 (dt_not (dt_val (dbi T.f_all (cr_all rfl) allD (da_cons (de_comp (own := [("one", 2)]) rfl sc_check_kinds.nd (di_val (dv 1)) (blkOk_by (N := N_check_kinds) (sc := defScope s_check_kinds) (by decide +kernel)) (fun _ _ _ _ _ => (dg_name (i := 2) rfl sc_check_kinds.nd rfl (Or.inl rfl))) (fun _ _ _ _ _ => dts_nil) (fun _ _ _ _ _ => (dcall C_is_kind (hr.mono (by decide)) L2.takes0 (da_cons (dv 0) (da_cons (dv 2) da_nil))))) da_nil))))))) (dss_one ds_never) dss_nil)
  (dss_one (ds_ret (dty T.f_tuple call_tuple_of tupD (da_cons (dbi T.f_sorted (call_sortD (hu64 hr)) sortCD (da_cons (dty T.f_list (call_list2 rfl) list2D (da_one (de_dc true (hu65 hr) (own := [("one", 2)]) rfl sc_check_kinds.nd (di_val (dv 1)) (blkOk_by (N := N_check_kinds) (sc := defScope s_check_kinds) (by decide +kernel)) (fun _ _ _ _ _ => (dg_name (i := 2) rfl sc_check_kinds.nd rfl (Or.inl rfl))) (fun _ _ _ _ _ => dts_nil) (fun _ _ _ _ _ => (dty T.f_tuple call_tuple_of tupD (da_cons (dv 2) da_nil))) (fun _ _ _ _ _ => de_bl)))) da_nil)) da_nil)))))⟩
abbrev N_told_kinds : List Str := ["book", "kinds"]
theorem sc_told_kinds : FnScope N_told_kinds ["book", "kinds"] (defScope s_told_kinds) := ⟨rfl, rfl, rfl, by decide +kernel, rfl, by decide +kernel, by decide +kernel⟩
def m_told_kinds : M Val := runF 2 2 (sRet 2 (dIf (dAsk (dBin isV (dVar 1) (dC .non))) (dFn m_kinds_of [] (aCons (dVar 0) aNil)) (dFn m_check_kinds [] (aCons (dVar 0) (aCons (dVar 1) aNil)))))
theorem ok_told_kinds {fd : FuncData} (F : FunD K "told_kinds" "told_kinds" (defArgs s_told_kinds) (defBody s_told_kinds) (defScope s_told_kinds) [] [] (He.ga K "told_kinds") fd) (hm : mg "told_kinds" = some (.ref (He.ga K "told_kinds"))) (T : Txt K mg) (C_kinds_of : Callee P w K mg base "kinds_of" 1 ["book"] m_kinds_of) (C_check_kinds : Callee P w K mg base "check_kinds" 5 ["book", "value"] m_check_kinds) : Callee P w K mg base "told_kinds" 6 ["book", "kinds"] m_told_kinds :=
  ⟨fd, hm, F.kp, F.bindsN (fun _ _ _ _ _ _ us hl => match us, hl with | [_, _], _ => rfl), dfn_ok F sc_told_kinds (by decide) fun cdv A outer s H E hr => (dss_one (ds_ret (de_if (dt_cmp op_isN isD (dv 1) de_non (nomark _)) (dcall C_kinds_of (hr.mono (by decide)) tk_def (da_cons (dv 0) da_nil)) (dcall C_check_kinds (hr.mono (by decide)) tk_def (da_cons (dv 0) (da_cons (dv 1) da_nil))))))⟩
abbrev N_lots_set : List Str := ["places", "found", "place", "lot"]
theorem sc_lots_set : FnScope N_lots_set ["places"] (defScope s_lots_set) := ⟨rfl, rfl, rfl, by decide +kernel, rfl, by decide +kernel, by decide +kernel⟩
def m_lots_set : M Val := runF 1 4 (sSeq (sSet 1 (dLst (fCons (dTup fNil) fNil)))
  (sSeq (sFor (iVal (dVar 0)) (gN 2) (sDrop (dMeth (lstM extF) (dVar 1) (fCons (dComp (iVal (dVar 1)) [3] (gN 3) tT (dBin addV (dVar 3) (dTup (fCons (dVar 2) fNil)))) fNil))))
  (sRet 1 (dSl (dCall (sortC) (aCons (dVar 1) aNil)) (pSome (dC (.int 1))) pNone))))
theorem ok_lots_set {fd : FuncData} (F : FunD K "lots_set" "lots_set" (defArgs s_lots_set) (defBody s_lots_set) (defScope s_lots_set) [] [] (He.ga K "lots_set") fd) (hm : mg "lots_set" = some (.ref (He.ga K "lots_set"))) (T : Txt K mg)  : Callee P w K mg base "lots_set" 1 ["places"] m_lots_set :=
  ⟨fd, hm, F.kp, F.bindsN (fun _ _ _ _ _ _ us hl => match us, hl with | [_], _ => rfl), dfn_ok F sc_lots_set (by decide) fun cdv A outer s H E hr => (dss_cons (ds_set (i := 1) (by decide) sc_lots_set.nd rfl (Or.inl rfl) (de_lst (df_cons (de_tup df_nil) df_nil)))
  (dss_cons (ds_for po_def rfl (di_val (dv 0)) (dg_name (i := 2) rfl sc_lots_set.nd rfl (Or.inr rfl)) (dss_one (ds_expr (de_meth PySem.F.slot_list_extend PySem.F.type_list_extend mt_extend extD (dv 1) (df_cons (de_comp (own := [("lot", 3)]) rfl sc_lots_set.nd (di_val (dv 1)) (blkOk_by (N := N_lots_set) (sc := defScope s_lots_set) (by decide +kernel)) (fun _ _ _ _ _ => (dg_name (i := 3) rfl sc_lots_set.nd rfl (Or.inl rfl))) (fun _ _ _ _ _ => dts_nil) (fun _ _ _ _ _ => (de_op op_addD addD (dv 3) (de_tup (df_cons (dv 2) df_nil))))) df_nil)))))
  (dss_one (ds_ret (de_sl (dbi T.f_sorted (call_sortD (hu64 hr)) sortCD (da_cons (dv 1) da_nil)) (do_some de_int) do_none)))))⟩
abbrev N_row_set : List Str := ["one", "other", "places", "at", "value"]
theorem sc_row_set : FnScope N_row_set ["one", "other", "places"] (defScope s_row_set) := ⟨rfl, rfl, rfl, by decide +kernel, rfl, by decide +kernel, by decide +kernel⟩
def m_row_set : M Val := runF 3 5 (sRet 3 (dCall (tupC) (aCons (dComp (M.bind (fCons (dVar 0) fNil) enF) [3, 4] (gT ((gN 3) :: ((gN 4) :: []))) tT (dIf (dAsk (dBin inV2 (dVar 3) (dVar 2))) (dBin ixV (dVar 1) (dVar 3)) (dVar 4))) aNil)))
theorem ok_row_set {fd : FuncData} (F : FunD K "row_set" "row_set" (defArgs s_row_set) (defBody s_row_set) (defScope s_row_set) [] [] (He.ga K "row_set") fd) (hm : mg "row_set" = some (.ref (He.ga K "row_set"))) (T : Txt K mg)  : Callee P w K mg base "row_set" 1 ["one", "other", "places"] m_row_set :=
  ⟨fd, hm, F.kp, F.bindsN (fun _ _ _ _ _ _ us hl => match us, hl with | [_, _, _], _ => rfl), dfn_ok F sc_row_set (by decide) fun cdv A outer s H E hr => (dss_one (ds_ret (dty T.f_tuple call_tuple_of tupD (da_cons (de_comp (own := [("at", 3), ("value", 4)]) rfl sc_row_set.nd (di_enum rfl T.f_enumerate (df_cons (dv 0) df_nil)) (blkOk_by (N := N_row_set) (sc := defScope s_row_set) (by decide +kernel)) (fun _ _ _ _ _ => (dg_tup rfl (dgs_cons (dg_name (i := 3) rfl sc_row_set.nd rfl (Or.inl rfl)) (dgs_cons (dg_name (i := 4) rfl sc_row_set.nd rfl (Or.inl rfl)) dgs_nil)) rfl)) (fun _ _ _ _ _ => dts_nil) (fun _ _ _ _ _ => (de_if (dt_cmp (op_in2 (hu65 hr)) in2D (dv 3) (dv 2) (by rfl)) (de_ix (dv 1) (dv 3) (fun _ _ => rfl)) (dv 4)))) da_nil))))⟩
abbrev N_places_of : List Str := ["places", "one", "other", "kind", "found", "at", "column"]
theorem sc_places_of : FnScope N_places_of ["places", "one", "other", "kind"] (defScope s_places_of) := ⟨rfl, rfl, rfl, by decide +kernel, rfl, by decide +kernel, by decide +kernel⟩
def m_places_of : M Val := runF 4 7 (sSeq (sSet 4 (dLst fNil))
  (sSeq (sFor (M.bind (fCons (dVar 0) fNil) enF) (gT ((gN 5) :: ((gN 6) :: []))) (sIf (dAsk (dBin eqV (dTup (fCons (dVar 6) (fCons (dBin ixV (dVar 1) (dVar 5)) (fCons (dBin ixV (dVar 2) (dVar 5)) fNil)))) (dVar 3))) (sDrop (dMeth (lstM appF) (dVar 4) (fCons (dVar 5) fNil))) sNx))
  (sRet 4 (dCall (tupC) (aCons (dVar 4) aNil)))))
theorem ok_places_of {fd : FuncData} (F : FunD K "places_of" "places_of" (defArgs s_places_of) (defBody s_places_of) (defScope s_places_of) [] [] (He.ga K "places_of") fd) (hm : mg "places_of" = some (.ref (He.ga K "places_of"))) (T : Txt K mg)  : Callee P w K mg base "places_of" 1 ["places", "one", "other", "kind"] m_places_of :=
  ⟨fd, hm, F.kp, F.bindsN (fun _ _ _ _ _ _ us hl => match us, hl with | [_, _, _, _], _ => rfl), dfn_ok F sc_places_of (by decide) fun cdv A outer s H E hr => (dss_cons (ds_set (i := 4) (by decide) sc_places_of.nd rfl (Or.inl rfl) (de_lst df_nil))
  (dss_cons (ds_for po_def rfl (di_enum rfl T.f_enumerate (df_cons (dv 0) df_nil)) (dg_tup rfl (dgs_cons (dg_name (i := 5) rfl sc_places_of.nd rfl (Or.inl rfl)) (dgs_cons (dg_name (i := 6) rfl sc_places_of.nd rfl (Or.inl rfl)) dgs_nil)) rfl) (dss_one (ds_if (dt_cmp (op_eqD (hu64 hr)) eqD (de_tup (df_cons (dv 6) (df_cons (de_ix (dv 1) (dv 5) (fun _ _ => rfl)) (df_cons (de_ix (dv 2) (dv 5) (fun _ _ => rfl)) df_nil)))) (dv 3) (nomark _)) (dss_one (ds_expr (de_meth PySem.F.slot_list_append PySem.F.type_list_append mt_append appD (dv 4) (df_cons (dv 5) df_nil)))) dss_nil)))
  (dss_one (ds_ret (dty T.f_tuple call_tuple_of tupD (da_cons (dv 4) da_nil))))))⟩
abbrev N_barred_lots : List Str := ["book", "check", "one", "other", "kind", "places", "rows", "some", "lot"]
theorem sc_barred_lots : FnScope N_barred_lots ["book", "check", "one", "other", "kind"] (defScope s_barred_lots) := ⟨rfl, rfl, rfl, by decide +kernel, rfl, by decide +kernel, by decide +kernel⟩
def m_barred_lots : M Val := runF 5 9 (sSeq (sAsg (gT ((gN 5) :: ((gN 6) :: []))) (dBin ixV (dUn (fldV ["Book"] "checks") (dVar 0)) (dVar 1)))
  (sSeq (sSet 7 (dFn m_places_of [] (aCons (dVar 5) (aCons (dVar 2) (aCons (dVar 3) (aCons (dVar 4) aNil))))))
  (sRet 5 (dComp (iVal (dFn m_lots_set [] (aCons (dVar 7) aNil))) [8] (gN 8) (dAsk (dBin niV2 (dFn m_row_set [] (aCons (dVar 2) (aCons (dVar 3) (aCons (dVar 8) aNil)))) (dVar 6))) (dVar 8)))))
theorem ok_barred_lots {fd : FuncData} (F : FunD K "barred_lots" "barred_lots" (defArgs s_barred_lots) (defBody s_barred_lots) (defScope s_barred_lots) [] [] (He.ga K "barred_lots") fd) (hm : mg "barred_lots" = some (.ref (He.ga K "barred_lots"))) (T : Txt K mg) (C_places_of : Callee P w K mg base "places_of" 1 ["places", "one", "other", "kind"] m_places_of) (C_lots_set : Callee P w K mg base "lots_set" 1 ["places"] m_lots_set) (C_row_set : Callee P w K mg base "row_set" 1 ["one", "other", "places"] m_row_set) : Callee P w K mg base "barred_lots" 2 ["book", "check", "one", "other", "kind"] m_barred_lots :=
  ⟨fd, hm, F.kp, F.bindsN (fun _ _ _ _ _ _ us hl => match us, hl with | [_, _, _, _, _], _ => rfl), dfn_ok F sc_barred_lots (by decide) fun cdv A outer s H E hr => (dss_cons (ds_asg (de_ix (de_fld (dv 0) T.fld_checks) (dv 1) (fun _ _ => rfl)) (dg_tup rfl (dgs_cons (dg_name (i := 5) rfl sc_barred_lots.nd rfl (Or.inl rfl)) (dgs_cons (dg_name (i := 6) rfl sc_barred_lots.nd rfl (Or.inr rfl)) dgs_nil)) rfl))
  (dss_cons (ds_set (i := 7) (by decide) sc_barred_lots.nd rfl (Or.inl rfl) (dcall C_places_of (hr.mono (by decide)) tk_def (da_cons (dv 5) (da_cons (dv 2) (da_cons (dv 3) (da_cons (dv 4) da_nil))))))
  (dss_one (ds_ret (de_comp (own := [("lot", 8)]) rfl sc_barred_lots.nd (di_val (dcall C_lots_set (hr.mono (by decide)) tk_def (da_cons (dv 7) da_nil))) (blkOk_by (N := N_barred_lots) (sc := defScope s_barred_lots) (by decide +kernel)) (fun _ _ _ _ _ => (dg_name (i := 8) rfl sc_barred_lots.nd rfl (Or.inl rfl))) (fun _ _ _ _ _ => (dts_one (dt_cmp (op_ni2 (hu65 hr)) ni2D (dcall C_row_set (hr.mono (by decide)) L2.takes0 (da_cons (dv 2) (da_cons (dv 3) (da_cons (dv 8) da_nil)))) (dv 6) (by rfl)))) (fun _ _ _ _ _ => (dv 8)))))))⟩
abbrev N_unlike_pairs : List Str := ["book", "check", "kinds", "places", "rows", "told", "found", "one", "other", "ends", "kind", "end"]
theorem sc_unlike_pairs : FnScope N_unlike_pairs ["book", "check", "kinds"] (defScope s_unlike_pairs) := ⟨rfl, rfl, rfl, by decide +kernel, rfl, by decide +kernel, by decide +kernel⟩
def m_unlike_pairs : M Val := runF 3 12 (sSeq (sAsg (gT ((gN 3) :: ((gN 4) :: []))) (dBin ixV (dUn (fldV ["Book"] "checks") (dVar 0)) (dVar 1)))
  (sSeq (sSet 5 (dDc true (iVal (dVar 2)) [10] (gN 10) tT (dVar 10) (dC (.bl true))))
  (sSeq (sSet 6 (dLst fNil))
  (sSeq (sFor (iVal (dVar 4)) (gN 7) (sFor (iVal (dVar 4)) (gN 8) (sSeq (sSet 9 (M.bind (fCons (dVar 3) (fCons (dVar 7) (fCons (dVar 8) fNil))) zipL3))
  (sIf (tAndB (dAsk (dBin neV (dVar 7) (dVar 8))) (dAsk (dCall (fn1 allF) (aCons (dComp (iVal (dVar 9)) [11] (gN 11) (dAsk (dBin neV (dBin ixV (dVar 11) (dC (.int 1))) (dBin ixV (dVar 11) (dC (.int 2))))) (dBin inV2 (dVar 11) (dVar 5))) aNil)))) (sDrop (dMeth (lstM appF) (dVar 6) (fCons (dTup (fCons (dVar 7) (fCons (dVar 8) fNil))) fNil))) sNx))))
  (sRet 3 (dVar 6))))))
theorem ok_unlike_pairs {fd : FuncData} (F : FunD K "unlike_pairs" "unlike_pairs" (defArgs s_unlike_pairs) (defBody s_unlike_pairs) (defScope s_unlike_pairs) [] [] (He.ga K "unlike_pairs") fd) (hm : mg "unlike_pairs" = some (.ref (He.ga K "unlike_pairs"))) (T : Txt K mg)  : Callee P w K mg base "unlike_pairs" 1 ["book", "check", "kinds"] m_unlike_pairs :=
  ⟨fd, hm, F.kp, F.bindsN (fun _ _ _ _ _ _ us hl => match us, hl with | [_, _, _], _ => rfl), dfn_ok F sc_unlike_pairs (by decide) fun cdv A outer s H E hr => (dss_cons (ds_asg (de_ix (de_fld (dv 0) T.fld_checks) (dv 1) (fun _ _ => rfl)) (dg_tup rfl (dgs_cons (dg_name (i := 3) rfl sc_unlike_pairs.nd rfl (Or.inl rfl)) (dgs_cons (dg_name (i := 4) rfl sc_unlike_pairs.nd rfl (Or.inl rfl)) dgs_nil)) rfl))
  (dss_cons (ds_set (i := 5) (by decide) sc_unlike_pairs.nd rfl (Or.inr rfl) (de_dc true (hu65 hr) (own := [("kind", 10)]) rfl sc_unlike_pairs.nd (di_val (dv 2)) (blkOk_by (N := N_unlike_pairs) (sc := defScope s_unlike_pairs) (by decide +kernel)) (fun _ _ _ _ _ => (dg_name (i := 10) rfl sc_unlike_pairs.nd rfl (Or.inl rfl))) (fun _ _ _ _ _ => dts_nil) (fun _ _ _ _ _ => (dv 10)) (fun _ _ _ _ _ => de_bl)))
  (dss_cons (ds_set (i := 6) (by decide) sc_unlike_pairs.nd rfl (Or.inl rfl) (de_lst df_nil))
  (dss_cons (ds_for po_def rfl (di_val (dv 4)) (dg_name (i := 7) rfl sc_unlike_pairs.nd rfl (Or.inl rfl)) (dss_one (ds_for po_def rfl (di_val (dv 4)) (dg_name (i := 8) rfl sc_unlike_pairs.nd rfl (Or.inl rfl)) (dss_cons (ds_set (i := 9) (by decide) sc_unlike_pairs.nd rfl (Or.inl rfl) (de_listZip3 rfl T.f_list T.f_zip (df_cons (dv 3) (df_cons (dv 7) (df_cons (dv 8) df_nil)))))
  (dss_one (ds_if (DW.dt (dw_and (dt_cmp (op_neD (hu64 hr)) neD (dv 7) (dv 8) (nomark _)) (dw_and1 (dt_val (dbi T.f_all (cr_all rfl) allD (da_cons (de_comp (own := [("end", 11)]) rfl sc_unlike_pairs.nd (di_val (dv 9)) (blkOk_by (N := N_unlike_pairs) (sc := defScope s_unlike_pairs) (by decide +kernel)) (fun _ _ _ _ _ => (dg_name (i := 11) rfl sc_unlike_pairs.nd rfl (Or.inl rfl))) (fun _ _ _ _ _ => (dts_one (dt_cmp (op_neD (hu64 hr)) neD (de_ix (dv 11) de_int (fun _ _ => rfl)) (de_ix (dv 11) de_int (fun _ _ => rfl)) (nomark _)))) (fun _ _ _ _ _ => (de_cmp (op_in2 (hu65 hr)) in2D (dv 11) (dv 5) (by rfl)))) da_nil)))))) (dss_one (ds_expr (de_meth PySem.F.slot_list_append PySem.F.type_list_append mt_append appD (dv 6) (df_cons (de_tup (df_cons (dv 7) (df_cons (dv 8) df_nil))) df_nil)))) dss_nil))))))
  (dss_one (ds_ret (dv 6)))))))⟩
abbrev N_all_unlike : List Str := ["book", "kinds", "check"]
theorem sc_all_unlike : FnScope N_all_unlike ["book", "kinds"] (defScope s_all_unlike) := ⟨rfl, rfl, rfl, by decide +kernel, rfl, by decide +kernel, by decide +kernel⟩
def m_all_unlike : M Val := runF 2 3 (sRet 2 (dComp (M.bind (fCons (dCall (fn1 lenF) (aCons (dUn (fldV ["Book"] "checks") (dVar 0)) aNil)) fNil) rng1) [2] (gN 2) tT (dFn m_unlike_pairs [] (aCons (dVar 0) (aCons (dVar 2) (aCons (dVar 1) aNil))))))
theorem ok_all_unlike {fd : FuncData} (F : FunD K "all_unlike" "all_unlike" (defArgs s_all_unlike) (defBody s_all_unlike) (defScope s_all_unlike) [] [] (He.ga K "all_unlike") fd) (hm : mg "all_unlike" = some (.ref (He.ga K "all_unlike"))) (T : Txt K mg) (C_unlike_pairs : Callee P w K mg base "unlike_pairs" 1 ["book", "check", "kinds"] m_unlike_pairs) : Callee P w K mg base "all_unlike" 2 ["book", "kinds"] m_all_unlike :=
  ⟨fd, hm, F.kp, F.bindsN (fun _ _ _ _ _ _ us hl => match us, hl with | [_, _], _ => rfl), dfn_ok F sc_all_unlike (by decide) fun cdv A outer s H E hr => (dss_one (ds_ret (de_comp (own := [("check", 2)]) rfl sc_all_unlike.nd (di_range1 rfl T.f_range (df_cons (dbi T.f_len call_len lenD (da_cons (de_fld (dv 0) T.fld_checks) da_nil)) df_nil)) (blkOk_by (N := N_all_unlike) (sc := defScope s_all_unlike) (by decide +kernel)) (fun _ _ _ _ _ => (dg_name (i := 2) rfl sc_all_unlike.nd rfl (Or.inl rfl))) (fun _ _ _ _ _ => dts_nil) (fun _ _ _ _ _ => (dcall C_unlike_pairs (hr.mono (by decide)) L2.takes0 (da_cons (dv 0) (da_cons (dv 2) (da_cons (dv 1) da_nil))))))))⟩
abbrev N_first_bar : List Str := ["book", "kind", "pairs", "check", "some", "one", "other", "lots"]
theorem sc_first_bar : FnScope N_first_bar ["book", "kind", "pairs"] (defScope s_first_bar) := ⟨rfl, rfl, rfl, by decide +kernel, rfl, by decide +kernel, by decide +kernel⟩
def m_first_bar : M Val := runF 3 8 (sSeq (sFor (M.bind (fCons (dVar 2) fNil) enF) (gT ((gN 3) :: ((gN 4) :: []))) (sFor (iVal (dVar 4)) (gT ((gN 5) :: ((gN 6) :: []))) (sSeq (sSet 7 (dFn m_barred_lots [] (aCons (dVar 0) (aCons (dVar 3) (aCons (dVar 5) (aCons (dVar 6) (aCons (dVar 1) aNil)))))))
  (sIf (dAsk (dBin gtV (dCall (fn1 lenF) (aCons (dVar 7) aNil)) (dC (.int 0)))) (sRet 3 (dTup (fCons (dVar 3) (fCons (dVar 5) (fCons (dVar 6) (fCons (dBin ixV (dVar 7) (dC (.int 0))) fNil)))))) sNx))))
  (sRet 3 (dC .non)))
theorem ok_first_bar {fd : FuncData} (F : FunD K "first_bar" "first_bar" (defArgs s_first_bar) (defBody s_first_bar) (defScope s_first_bar) [] [] (He.ga K "first_bar") fd) (hm : mg "first_bar" = some (.ref (He.ga K "first_bar"))) (T : Txt K mg) (C_barred_lots : Callee P w K mg base "barred_lots" 2 ["book", "check", "one", "other", "kind"] m_barred_lots) : Callee P w K mg base "first_bar" 3 ["book", "kind", "pairs"] m_first_bar :=
  ⟨fd, hm, F.kp, F.bindsN (fun _ _ _ _ _ _ us hl => match us, hl with | [_, _, _], _ => rfl), dfn_ok F sc_first_bar (by decide) fun cdv A outer s H E hr => (dss_cons (ds_for po_def rfl (di_enum rfl T.f_enumerate (df_cons (dv 2) df_nil)) (dg_tup rfl (dgs_cons (dg_name (i := 3) rfl sc_first_bar.nd rfl (Or.inl rfl)) (dgs_cons (dg_name (i := 4) rfl sc_first_bar.nd rfl (Or.inl rfl)) dgs_nil)) rfl) (dss_one (ds_for po_def rfl (di_val (dv 4)) (dg_tup rfl (dgs_cons (dg_name (i := 5) rfl sc_first_bar.nd rfl (Or.inl rfl)) (dgs_cons (dg_name (i := 6) rfl sc_first_bar.nd rfl (Or.inl rfl)) dgs_nil)) rfl) (dss_cons (ds_set (i := 7) (by decide) sc_first_bar.nd rfl (Or.inl rfl) (dcall C_barred_lots (hr.mono (by decide)) tk_def (da_cons (dv 0) (da_cons (dv 3) (da_cons (dv 5) (da_cons (dv 6) (da_cons (dv 1) da_nil)))))))
  (dss_one (ds_if (dt_cmp op_gt gtD (dbi T.f_len call_len lenD (da_cons (dv 7) da_nil)) de_int (nomark _)) (dss_one (ds_ret (de_tup (df_cons (dv 3) (df_cons (dv 5) (df_cons (dv 6) (df_cons (de_ix (dv 7) de_int (fun _ _ => rfl)) df_nil))))))) dss_nil))))))
  (dss_one (ds_ret de_non)))⟩
abbrev N_layers_and_rest : List Str := ["book", "kinds", "left", "layers", "pairs", "layer", "kind"]
theorem sc_layers_and_rest : FnScope N_layers_and_rest ["book", "kinds"] (defScope s_layers_and_rest) := ⟨rfl, rfl, rfl, by decide +kernel, rfl, by decide +kernel, by decide +kernel⟩
noncomputable def m_layers_and_rest : M Val := runF 2 7 (sSeq (sSet 2 (dCall (listC2) (aCons (dVar 1) aNil)))
  (sSeq (sSet 3 (dLst fNil))
  (sSeq (sWhile (dAsk (dBin gtV (dCall (fn1 lenF) (aCons (dVar 2) aNil)) (dC (.int 0)))) (sSeq (sSet 4 (dFn m_all_unlike [] (aCons (dVar 0) (aCons (dVar 2) aNil))))
  (sSeq (sSet 5 (dComp (iVal (dVar 2)) [6] (gN 6) (dAsk (dBin isV (dFn m_first_bar [] (aCons (dVar 0) (aCons (dVar 6) (aCons (dVar 4) aNil)))) (dC .non))) (dVar 6)))
  (sSeq (sIf (dAsk (dBin eqV (dCall (fn1 lenF) (aCons (dVar 5) aNil)) (dC (.int 0)))) SO.bk sNx)
  (sSeq (sDrop (dMeth (lstM appF) (dVar 3) (fCons (dCall (tupC) (aCons (dVar 5) aNil)) fNil)))
  (sSet 2 (dComp (iVal (dVar 2)) [6] (gN 6) (dAsk (dBin niV2 (dVar 6) (dVar 5))) (dVar 6))))))))
  (sRet 2 (dTup (fCons (dCall (tupC) (aCons (dVar 3) aNil)) (fCons (dCall (tupC) (aCons (dVar 2) aNil)) fNil)))))))
theorem ok_layers_and_rest {fd : FuncData} (F : FunD K "layers_and_rest" "layers_and_rest" (defArgs s_layers_and_rest) (defBody s_layers_and_rest) (defScope s_layers_and_rest) [] [] (He.ga K "layers_and_rest") fd) (hm : mg "layers_and_rest" = some (.ref (He.ga K "layers_and_rest"))) (T : Txt K mg) (C_all_unlike : Callee P w K mg base "all_unlike" 2 ["book", "kinds"] m_all_unlike) (C_first_bar : Callee P w K mg base "first_bar" 3 ["book", "kind", "pairs"] m_first_bar) : Callee P w K mg base "layers_and_rest" 4 ["book", "kinds"] m_layers_and_rest :=
  ⟨fd, hm, F.kp, F.bindsN (fun _ _ _ _ _ _ us hl => match us, hl with | [_, _], _ => rfl), dfn_ok F sc_layers_and_rest (by decide) fun cdv A outer s H E hr => (dss_cons (ds_set (i := 2) (by decide) sc_layers_and_rest.nd rfl (Or.inl rfl) (dty T.f_list (call_list2 rfl) list2D (da_cons (dv 1) da_nil)))
  (dss_cons (ds_set (i := 3) (by decide) sc_layers_and_rest.nd rfl (Or.inl rfl) (de_lst df_nil))
  (dss_cons (ds_while po_def (dt_cmp op_gt gtD (dbi T.f_len call_len lenD (da_cons (dv 2) da_nil)) de_int (nomark _)) (dss_cons (ds_set (i := 4) (by decide) sc_layers_and_rest.nd rfl (Or.inr rfl) (dcall C_all_unlike (hr.mono (by decide)) tk_def (da_cons (dv 0) (da_cons (dv 2) da_nil))))
  (dss_cons (ds_set (i := 5) (by decide) sc_layers_and_rest.nd rfl (Or.inr rfl) (de_comp (own := [("kind", 6)]) rfl sc_layers_and_rest.nd (di_val (dv 2)) (blkOk_by (N := N_layers_and_rest) (sc := defScope s_layers_and_rest) (by decide +kernel)) (fun _ _ _ _ _ => (dg_name (i := 6) rfl sc_layers_and_rest.nd rfl (Or.inl rfl))) (fun _ _ _ _ _ => (dts_one (dt_cmp op_isN isD (dcall C_first_bar (hr.mono (by decide)) L2.takes0 (da_cons (dv 0) (da_cons (dv 6) (da_cons (dv 4) da_nil)))) de_non (nomark _)))) (fun _ _ _ _ _ => (dv 6))))
  (dss_cons (ds_if (dt_cmp (op_eqD (hu64 hr)) eqD (dbi T.f_len call_len lenD (da_cons (dv 5) da_nil)) de_int (nomark _)) (dss_one ds_break) dss_nil)
  (dss_cons (ds_expr (de_meth PySem.F.slot_list_append PySem.F.type_list_append mt_append appD (dv 3) (df_cons (dty T.f_tuple call_tuple_of tupD (da_cons (dv 5) da_nil)) df_nil)))
  (dss_one (ds_setC (i := 2) (by decide) (own := [("kind", 6)]) rfl sc_layers_and_rest.nd rfl rfl (sw_true rfl rfl rfl (by decide +kernel)) (di_val (dv 2)) (blkOk_by (N := N_layers_and_rest) (sc := defScope s_layers_and_rest) (by decide +kernel)) (fun _ _ _ _ _ => (dg_name (i := 6) rfl sc_layers_and_rest.nd rfl (Or.inl rfl))) (fun _ _ _ _ _ => (dts_one (dt_cmp (op_ni2 (hu65 hr)) ni2D (dv 6) (dv 5) (by rfl)))) (fun _ _ _ _ _ => (dv 6)))))))))
  (dss_one (ds_ret (de_tup (df_cons (dty T.f_tuple call_tuple_of tupD (da_cons (dv 3) da_nil)) (df_cons (dty T.f_tuple call_tuple_of tupD (da_cons (dv 2) da_nil)) df_nil))))))))⟩
abbrev N_layers_of : List Str := ["book", "kinds"]
theorem sc_layers_of : FnScope N_layers_of ["book", "kinds"] (defScope s_layers_of) := ⟨rfl, rfl, rfl, by decide +kernel, rfl, by decide +kernel, by decide +kernel⟩
noncomputable def m_layers_of : M Val := runF 2 2 (sRet 2 (dBin ixV (dFn m_layers_and_rest [] (aCons (dVar 0) (aCons (dFn m_told_kinds [] (aCons (dVar 0) (aCons (dVar 1) aNil))) aNil))) (dC (.int 0))))
theorem ok_layers_of {fd : FuncData} (F : FunD K "layers_of" "layers_of" (defArgs s_layers_of) (defBody s_layers_of) (defScope s_layers_of) [.non] [] (He.ga K "layers_of") fd) (hm : mg "layers_of" = some (.ref (He.ga K "layers_of"))) (T : Txt K mg) (C_layers_and_rest : Callee P w K mg base "layers_and_rest" 4 ["book", "kinds"] m_layers_and_rest) (C_told_kinds : Callee P w K mg base "told_kinds" 6 ["book", "kinds"] m_told_kinds) : Callee P w K mg base "layers_of" 7 ["book", "kinds"] m_layers_of :=
  ⟨fd, hm, F.kp, binds_full F (by simp) (fun _ _ _ _ _ _ _ us its hl hl2 => match us, its, hl, hl2 with | [_, _], [_], _, _ => ⟨_, rfl, rfl⟩), dfn_ok F sc_layers_of (by decide) fun cdv A outer s H E hr => (dss_one (ds_ret (de_ix (dcall C_layers_and_rest (hr.mono (by decide)) tk_def (da_cons (dv 0) (da_cons (dcall C_told_kinds (hr.mono (by decide)) tk_def (da_cons (dv 0) (da_cons (dv 1) da_nil))) da_nil))) de_int (fun _ _ => rfl))))⟩
theorem ok1_layers_of {fd : FuncData} (F : FunD K "layers_of" "layers_of" (defArgs s_layers_of) (defBody s_layers_of) (defScope s_layers_of) [.non] [] (He.ga K "layers_of") fd) (hm : mg "layers_of" = some (.ref (He.ga K "layers_of"))) (T : Txt K mg) (C_layers_and_rest : Callee P w K mg base "layers_and_rest" 4 ["book", "kinds"] m_layers_and_rest) (C_told_kinds : Callee P w K mg base "told_kinds" 6 ["book", "kinds"] m_told_kinds) : CalleeD P w K mg base "layers_of" 7 ["book", "kinds"] [.non] m_layers_of := by
  obtain ⟨ds, v, b⟩ := F.binds1 (ps := ["book", "kinds"]) 1 0 (by simp) rfl (fun _ _ _ _ _ _ _ us its hl hl2 => match us, its, hl, hl2 with | [_], [_], _, _ => ⟨_, rfl, rfl⟩)
  exact ⟨fd, _, ds, hm, F.kp, v, fun S => (.cons (rep_non.mpr rfl) .nil), b, dfn_ok F sc_layers_of (by decide) fun cdv A outer s H E hr => (dss_one (ds_ret (de_ix (dcall C_layers_and_rest (hr.mono (by decide)) tk_def (da_cons (dv 0) (da_cons (dcall C_told_kinds (hr.mono (by decide)) tk_def (da_cons (dv 0) (da_cons (dv 1) da_nil))) da_nil))) de_int (fun _ _ => rfl))))⟩
abbrev N__law_box : List Str := ["_law_script", "_law_k", "_law_cell", "_law_great"]
theorem sc__law_box : FnScope N__law_box ["_law_script", "_law_k"] (defScope s__law_box) := ⟨rfl, rfl, rfl, by decide +kernel, rfl, by decide +kernel, by decide +kernel⟩
def m__law_box : M Val := runF 2 4 (sSeq (sSet 2 (dBin addV (dBin mulV (dC (.int 5807)) (dVar 1)) (dC (.int 619))))
  (sSeq (sIf (dAsk (dBin ltV (dVar 1) (dCall (fn1 lenF) (aCons (dVar 0) aNil)))) (sSet 2 (dCall (fn1 absF) (aCons (dCall (fn1 intF) (aCons (dBin ixV (dVar 0) (dVar 1)) aNil)) aNil))) (sIf (dAsk (dBin gtV (dCall (fn1 lenF) (aCons (dVar 0) aNil)) (dC (.int 0)))) (sSet 2 (dBin addV (dVar 2) (dBin mulV (dBin modV (dCall (fn1 intF) (aCons (dCall (fn1 absF) (aCons (dCall (fn1 intF) (aCons (dBin ixV (dVar 0) (dBin modV (dCall (fn1 intF) (aCons (dVar 1) aNil)) (dCall (fn1 lenF) (aCons (dVar 0) aNil)))) aNil)) aNil)) aNil)) (dC (.int 2147483587))) (dC (.int 50527))))) sNx))
  (sSeq (sSet 3 (dIf (dAsk (dBin geV (dVar 2) (dBin powV (dC (.int 10)) (dC (.int 18))))) (dVar 2) (dC (.int 0))))
  (sRet 2 (dLst (fCons (dVar 3) (fCons (dBin addV (dBin modV (dCall (fn1 intF) (aCons (dBin addV (dBin mulV (dBin modV (dCall (fn1 intF) (aCons (dVar 2) aNil)) (dC (.int 2147483587))) (dC (.int 69763))) (dBin mulV (dC (.int 619)) (dVar 1))) aNil)) (dC (.int 2147483587))) (dC (.int 1))) fNil)))))))
theorem ok__law_box {fd : FuncData} (F : FunD K "_law_box" "_law_box" (defArgs s__law_box) (defBody s__law_box) (defScope s__law_box) [] [] (He.ga K "_law_box") fd) (hm : mg "_law_box" = some (.ref (He.ga K "_law_box"))) (T : Txt K mg)  : Callee P w K mg base "_law_box" 1 ["_law_script", "_law_k"] m__law_box :=
  ⟨fd, hm, F.kp, F.bindsN (fun _ _ _ _ _ _ us hl => match us, hl with | [_, _], _ => rfl), dfn_ok F sc__law_box (by decide) fun cdv A outer s H E hr => (dss_cons (ds_set (i := 2) (by decide) sc__law_box.nd rfl (Or.inl rfl) (de_op op_addD addD (de_op op_mul mulD de_int (dv 1)) de_int))
  (dss_cons (ds_if (dt_cmp op_lt ltD (dv 1) (dbi T.f_len call_len lenD (da_cons (dv 0) da_nil)) (nomark _)) (dss_one (ds_set (i := 2) (by decide) sc__law_box.nd rfl (Or.inl rfl) (dbi T.f_abs call_abs absD (da_cons (dty T.f_int call_int1 intCD (da_cons (de_ix (dv 0) (dv 1) (fun _ _ => rfl)) da_nil)) da_nil)))) (dss_one (ds_if (dt_cmp op_gt gtD (dbi T.f_len call_len lenD (da_cons (dv 0) da_nil)) de_int (nomark _)) (dss_one (ds_set (i := 2) (by decide) sc__law_box.nd rfl (Or.inl rfl) (de_op op_addD addD (dv 2) (de_op op_mul mulD (de_op op_mod modD (dty T.f_int call_int1 intCD (da_cons (dbi T.f_abs call_abs absD (da_cons (dty T.f_int call_int1 intCD (da_cons (de_ix (dv 0) (de_op op_mod modD (dty T.f_int call_int1 intCD (da_cons (dv 1) da_nil)) (dbi T.f_len call_len lenD (da_cons (dv 0) da_nil))) (fun _ _ => rfl)) da_nil)) da_nil)) da_nil)) de_int) de_int)))) dss_nil)))
  (dss_cons (ds_set (i := 3) (by decide) sc__law_box.nd rfl (Or.inl rfl) (de_if (dt_cmp op_ge geD (dv 2) (de_op op_pow powD de_int de_int) (nomark _)) (dv 2) de_int))
  (dss_one (ds_ret (de_lst (df_cons (dv 3) (df_cons (de_op op_addD addD (de_op op_mod modD (dty T.f_int call_int1 intCD (da_cons (de_op op_addD addD (de_op op_mul mulD (de_op op_mod modD (dty T.f_int call_int1 intCD (da_cons (dv 2) da_nil)) de_int) de_int) (de_op op_mul mulD de_int (dv 1))) da_nil)) de_int) de_int) df_nil))))))))⟩
abbrev N__law_take : List Str := ["_law_box_here", "_law_many", "_law_digit", "_law_raw"]
theorem sc__law_take : FnScope N__law_take ["_law_box_here", "_law_many"] (defScope s__law_take) := ⟨rfl, rfl, rfl, by decide +kernel, rfl, by decide +kernel, by decide +kernel⟩
def m__law_take : M Val := runF 2 4 (sSeq (sIf (dAsk (dBin gtV (dBin ixV (dVar 0) (dC (.int 0))) (dC (.int 0)))) (sSeq (sSet 2 (dBin modV (dCall (fn1 intF) (aCons (dBin ixV (dVar 0) (dC (.int 0))) aNil)) (dVar 1)))
  (sSeq (sSub (dBin divV (dBin ixV (dVar 0) (dC (.int 0))) (dVar 1)) (dVar 0) (dC (.int 0)))
  (sRet 2 (dVar 2)))) sNx)
  (sSeq (sSet 3 (dBin modV (dCall (fn1 intF) (aCons (dBin addV (dBin mulV (dBin ixV (dVar 0) (dC (.int 1))) (dC (.int 40692))) (dC (.int 83))) aNil)) (dC (.int 2147483399))))
  (sSeq (sSub (dBin addV (dBin modV (dCall (fn1 intF) (aCons (dBin addV (dBin mulV (dVar 3) (dC (.int 39373))) (dC (.int 37))) aNil)) (dC (.int 2147483587))) (dC (.int 1))) (dVar 0) (dC (.int 1)))
  (sRet 2 (dBin modV (dCall (fn1 intF) (aCons (dBin divV (dBin addV (dBin mulV (dVar 3) (dC (.int 2147483629))) (dBin ixV (dVar 0) (dC (.int 1)))) (dC (.int 8167))) aNil)) (dVar 1))))))
theorem ok__law_take {fd : FuncData} (F : FunD K "_law_take" "_law_take" (defArgs s__law_take) (defBody s__law_take) (defScope s__law_take) [] [] (He.ga K "_law_take") fd) (hm : mg "_law_take" = some (.ref (He.ga K "_law_take"))) (T : Txt K mg)  : Callee P w K mg base "_law_take" 1 ["_law_box_here", "_law_many"] m__law_take :=
  ⟨fd, hm, F.kp, F.bindsN (fun _ _ _ _ _ _ us hl => match us, hl with | [_, _], _ => rfl), dfn_ok F sc__law_take (by decide) fun cdv A outer s H E hr => (dss_cons (ds_if (dt_cmp op_gt gtD (de_ix (dv 0) de_int (fun _ _ => rfl)) de_int (nomark _)) (dss_cons (ds_set (i := 2) (by decide) sc__law_take.nd rfl (Or.inl rfl) (de_op op_mod modD (dty T.f_int call_int1 intCD (da_cons (de_ix (dv 0) de_int (fun _ _ => rfl)) da_nil)) (dv 1)))
  (dss_cons (ds_sub (de_op op_fdiv divD (de_ix (dv 0) de_int (fun _ _ => rfl)) (dv 1)) (dv 0) de_int)
  (dss_one (ds_ret (dv 2))))) dss_nil)
  (dss_cons (ds_set (i := 3) (by decide) sc__law_take.nd rfl (Or.inl rfl) (de_op op_mod modD (dty T.f_int call_int1 intCD (da_cons (de_op op_addD addD (de_op op_mul mulD (de_ix (dv 0) de_int (fun _ _ => rfl)) de_int) de_int) da_nil)) de_int))
  (dss_cons (ds_sub (de_op op_addD addD (de_op op_mod modD (dty T.f_int call_int1 intCD (da_cons (de_op op_addD addD (de_op op_mul mulD (dv 3) de_int) de_int) da_nil)) de_int) de_int) (dv 0) de_int)
  (dss_one (ds_ret (de_op op_mod modD (dty T.f_int call_int1 intCD (da_cons (de_op op_fdiv divD (de_op op_addD addD (de_op op_mul mulD (dv 3) de_int) (de_ix (dv 0) de_int (fun _ _ => rfl))) de_int) da_nil)) (dv 1)))))))⟩
abbrev N__law_pick : List Str := ["_law_box_here", "_law_some"]
theorem sc__law_pick : FnScope N__law_pick ["_law_box_here", "_law_some"] (defScope s__law_pick) := ⟨rfl, rfl, rfl, by decide +kernel, rfl, by decide +kernel, by decide +kernel⟩
def m__law_pick : M Val := runF 2 2 (sRet 2 (dBin ixV (dVar 1) (dFn m__law_take [] (aCons (dVar 0) (aCons (dCall (fn1 lenF) (aCons (dVar 1) aNil)) aNil)))))
theorem ok__law_pick {fd : FuncData} (F : FunD K "_law_pick" "_law_pick" (defArgs s__law_pick) (defBody s__law_pick) (defScope s__law_pick) [] [] (He.ga K "_law_pick") fd) (hm : mg "_law_pick" = some (.ref (He.ga K "_law_pick"))) (T : Txt K mg) (C__law_take : Callee P w K mg base "_law_take" 1 ["_law_box_here", "_law_many"] m__law_take) : Callee P w K mg base "_law_pick" 2 ["_law_box_here", "_law_some"] m__law_pick :=
  ⟨fd, hm, F.kp, F.bindsN (fun _ _ _ _ _ _ us hl => match us, hl with | [_, _], _ => rfl), dfn_ok F sc__law_pick (by decide) fun cdv A outer s H E hr => (dss_one (ds_ret (de_ix (dv 1) (dcall C__law_take (hr.mono (by decide)) tk_def (da_cons (dv 0) (da_cons (dbi T.f_len call_len lenD (da_cons (dv 1) da_nil)) da_nil))) (fun _ _ => rfl))))⟩
abbrev N__law_mixed : List Str := ["_law_box_here", "_law_things", "_law_found", "_law_left", "_law_turn"]
theorem sc__law_mixed : FnScope N__law_mixed ["_law_box_here", "_law_things"] (defScope s__law_mixed) := ⟨rfl, rfl, rfl, by decide +kernel, rfl, by decide +kernel, by decide +kernel⟩
def m__law_mixed : M Val := runF 2 5 (sSeq (sPar [2, 3] (vCons (dLst fNil) (vCons (dCall (listC2) (aCons (dVar 1) aNil)) vNil)))
  (sSeq (sFor (M.bind (fCons (dCall (fn1 lenF) (aCons (dVar 3) aNil)) fNil) rng1) (gN 4) (sDrop (dMeth (lstM appF) (dVar 2) (fCons (dMeth (lstM popAtF) (dVar 3) (fCons (dFn m__law_take [] (aCons (dVar 0) (aCons (dCall (fn1 lenF) (aCons (dVar 3) aNil)) aNil))) fNil)) fNil))))
  (sRet 2 (dVar 2))))
theorem ok__law_mixed {fd : FuncData} (F : FunD K "_law_mixed" "_law_mixed" (defArgs s__law_mixed) (defBody s__law_mixed) (defScope s__law_mixed) [] [] (He.ga K "_law_mixed") fd) (hm : mg "_law_mixed" = some (.ref (He.ga K "_law_mixed"))) (T : Txt K mg) (C__law_take : Callee P w K mg base "_law_take" 1 ["_law_box_here", "_law_many"] m__law_take) : Callee P w K mg base "_law_mixed" 2 ["_law_box_here", "_law_things"] m__law_mixed :=
  ⟨fd, hm, F.kp, F.bindsN (fun _ _ _ _ _ _ us hl => match us, hl with | [_, _], _ => rfl), dfn_ok F sc__law_mixed (by decide) fun cdv A outer s H E hr => (dss_cons (ds_par2 (i := 2 ) (j := 3) (by decide) rfl sc__law_mixed.nd rfl rfl (by decide) rfl rfl  (dv_cons (de_lst df_nil) (dv_cons (dty T.f_list (call_list2 rfl) list2D (da_cons (dv 1) da_nil)) dv_nil)))
  (dss_cons (ds_for po_def rfl (di_range1 rfl T.f_range (df_cons (dbi T.f_len call_len lenD (da_cons (dv 3) da_nil)) df_nil)) (dg_name (i := 4) rfl sc__law_mixed.nd rfl (Or.inl rfl)) (dss_one (ds_expr (de_meth PySem.F.slot_list_append PySem.F.type_list_append mt_append appD (dv 2) (df_cons (de_meth PySem.F.slot_list_pop PySem.F.type_list_pop mt_popAt popAtD (dv 3) (df_cons (dcall C__law_take (hr.mono (by decide)) tk_def (da_cons (dv 0) (da_cons (dbi T.f_len call_len lenD (da_cons (dv 3) da_nil)) da_nil))) df_nil)) df_nil)))))
  (dss_one (ds_ret (dv 2)))))⟩
abbrev N__law_kinds : List Str := ["_law_columns", "_law_found", "_law_column", "_law_old", "_law_new"]
theorem sc__law_kinds : FnScope N__law_kinds ["_law_columns"] (defScope s__law_kinds) := ⟨rfl, rfl, rfl, by decide +kernel, rfl, by decide +kernel, by decide +kernel⟩
def m__law_kinds : M Val := runF 1 5 (sSeq (sSet 1 (dLst fNil))
  (sSeq (sFor (M.bind (fCons (dCall (fn1 lenF) (aCons (dVar 0) aNil)) fNil) rng1) (gN 2) (sFor (M.bind (fCons (dBin ixV (dVar 0) (dVar 2)) fNil) rng1) (gN 3) (sSet 1 (dBin addV (dVar 1) (dComp (M.bind (fCons (dBin ixV (dVar 0) (dVar 2)) fNil) rng1) [4] (gN 4) (dAsk (dBin neV (dVar 4) (dVar 3))) (dTup (fCons (dVar 2) (fCons (dVar 3) (fCons (dVar 4) fNil)))))))))
  (sRet 1 (dVar 1))))
theorem ok__law_kinds {fd : FuncData} (F : FunD K "_law_kinds" "_law_kinds" (defArgs s__law_kinds) (defBody s__law_kinds) (defScope s__law_kinds) [] [] (He.ga K "_law_kinds") fd) (hm : mg "_law_kinds" = some (.ref (He.ga K "_law_kinds"))) (T : Txt K mg)  : Callee P w K mg base "_law_kinds" 1 ["_law_columns"] m__law_kinds :=
  ⟨fd, hm, F.kp, F.bindsN (fun _ _ _ _ _ _ us hl => match us, hl with | [_], _ => rfl), dfn_ok F sc__law_kinds (by decide) fun cdv A outer s H E hr => (dss_cons (ds_set (i := 1) (by decide) sc__law_kinds.nd rfl (Or.inl rfl) (de_lst df_nil))
  (dss_cons (ds_for po_def rfl (di_range1 rfl T.f_range (df_cons (dbi T.f_len call_len lenD (da_cons (dv 0) da_nil)) df_nil)) (dg_name (i := 2) rfl sc__law_kinds.nd rfl (Or.inr rfl)) (dss_one (ds_for po_def rfl (di_range1 rfl T.f_range (df_cons (de_ix (dv 0) (dv 2) (fun _ _ => rfl)) df_nil)) (dg_name (i := 3) rfl sc__law_kinds.nd rfl (Or.inr rfl)) (dss_one (ds_set (i := 1) (by decide) sc__law_kinds.nd rfl (Or.inl rfl) (de_op op_addD addD (dv 1) (de_comp (own := [("_law_new", 4)]) rfl sc__law_kinds.nd (di_range1 rfl T.f_range (df_cons (de_ix (dv 0) (dv 2) (fun _ _ => rfl)) df_nil)) (blkOk_by (N := N__law_kinds) (sc := defScope s__law_kinds) (by decide +kernel)) (fun _ _ _ _ _ => (dg_name (i := 4) rfl sc__law_kinds.nd rfl (Or.inl rfl))) (fun _ _ _ _ _ => (dts_one (dt_cmp (op_neD (hu64 hr)) neD (dv 4) (dv 3) (nomark _)))) (fun _ _ _ _ _ => (de_tup (df_cons (dv 2) (df_cons (dv 3) (df_cons (dv 4) df_nil))))))))))))
  (dss_one (ds_ret (dv 1)))))⟩
abbrev N__law_rows : List Str := ["_law_columns", "_law_places", "_law_found", "_law_column", "_law_longer", "_law_row", "_law_value"]
theorem sc__law_rows : FnScope N__law_rows ["_law_columns", "_law_places"] (defScope s__law_rows) := ⟨rfl, rfl, rfl, by decide +kernel, rfl, by decide +kernel, by decide +kernel⟩
def m__law_rows : M Val := runF 2 7 (sSeq (sSet 2 (dLst (fCons (dTup fNil) fNil)))
  (sSeq (sFor (iVal (dVar 1)) (gN 3) (sSeq (sSet 4 (dLst fNil))
  (sSeq (sFor (iVal (dVar 2)) (gN 5) (sSet 4 (dBin addV (dVar 4) (dComp (M.bind (fCons (dBin ixV (dVar 0) (dVar 3)) fNil) rng1) [6] (gN 6) tT (dBin addV (dVar 5) (dTup (fCons (dVar 6) fNil)))))))
  (sSet 2 (dVar 4)))))
  (sRet 2 (dVar 2))))
theorem ok__law_rows {fd : FuncData} (F : FunD K "_law_rows" "_law_rows" (defArgs s__law_rows) (defBody s__law_rows) (defScope s__law_rows) [] [] (He.ga K "_law_rows") fd) (hm : mg "_law_rows" = some (.ref (He.ga K "_law_rows"))) (T : Txt K mg)  : Callee P w K mg base "_law_rows" 1 ["_law_columns", "_law_places"] m__law_rows :=
  ⟨fd, hm, F.kp, F.bindsN (fun _ _ _ _ _ _ us hl => match us, hl with | [_, _], _ => rfl), dfn_ok F sc__law_rows (by decide) fun cdv A outer s H E hr => (dss_cons (ds_set (i := 2) (by decide) sc__law_rows.nd rfl (Or.inl rfl) (de_lst (df_cons (de_tup df_nil) df_nil)))
  (dss_cons (ds_for po_def rfl (di_val (dv 1)) (dg_name (i := 3) rfl sc__law_rows.nd rfl (Or.inl rfl)) (dss_cons (ds_set (i := 4) (by decide) sc__law_rows.nd rfl (Or.inl rfl) (de_lst df_nil))
  (dss_cons (ds_for po_def rfl (di_val (dv 2)) (dg_name (i := 5) rfl sc__law_rows.nd rfl (Or.inr rfl)) (dss_one (ds_set (i := 4) (by decide) sc__law_rows.nd rfl (Or.inl rfl) (de_op op_addD addD (dv 4) (de_comp (own := [("_law_value", 6)]) rfl sc__law_rows.nd (di_range1 rfl T.f_range (df_cons (de_ix (dv 0) (dv 3) (fun _ _ => rfl)) df_nil)) (blkOk_by (N := N__law_rows) (sc := defScope s__law_rows) (by decide +kernel)) (fun _ _ _ _ _ => (dg_name (i := 6) rfl sc__law_rows.nd rfl (Or.inl rfl))) (fun _ _ _ _ _ => dts_nil) (fun _ _ _ _ _ => (de_op op_addD addD (dv 5) (de_tup (df_cons (dv 6) df_nil)))))))))
  (dss_one (ds_set (i := 2) (by decide) sc__law_rows.nd rfl (Or.inl rfl) (dv 4))))))
  (dss_one (ds_ret (dv 2)))))⟩
abbrev N__law_lots : List Str := ["_law_places", "_law_found", "_law_place", "_law_lot"]
theorem sc__law_lots : FnScope N__law_lots ["_law_places"] (defScope s__law_lots) := ⟨rfl, rfl, rfl, by decide +kernel, rfl, by decide +kernel, by decide +kernel⟩
def m__law_lots : M Val := runF 1 4 (sSeq (sSet 1 (dLst (fCons (dTup fNil) fNil)))
  (sSeq (sFor (iVal (dVar 0)) (gN 2) (sSet 1 (dBin addV (dVar 1) (dComp (iVal (dVar 1)) [3] (gN 3) tT (dBin addV (dVar 3) (dTup (fCons (dVar 2) fNil)))))))
  (sRet 1 (dVar 1))))
theorem ok__law_lots {fd : FuncData} (F : FunD K "_law_lots" "_law_lots" (defArgs s__law_lots) (defBody s__law_lots) (defScope s__law_lots) [] [] (He.ga K "_law_lots") fd) (hm : mg "_law_lots" = some (.ref (He.ga K "_law_lots"))) (T : Txt K mg)  : Callee P w K mg base "_law_lots" 1 ["_law_places"] m__law_lots :=
  ⟨fd, hm, F.kp, F.bindsN (fun _ _ _ _ _ _ us hl => match us, hl with | [_], _ => rfl), dfn_ok F sc__law_lots (by decide) fun cdv A outer s H E hr => (dss_cons (ds_set (i := 1) (by decide) sc__law_lots.nd rfl (Or.inl rfl) (de_lst (df_cons (de_tup df_nil) df_nil)))
  (dss_cons (ds_for po_def rfl (di_val (dv 0)) (dg_name (i := 2) rfl sc__law_lots.nd rfl (Or.inr rfl)) (dss_one (ds_set (i := 1) (by decide) sc__law_lots.nd rfl (Or.inl rfl) (de_op op_addD addD (dv 1) (de_comp (own := [("_law_lot", 3)]) rfl sc__law_lots.nd (di_val (dv 1)) (blkOk_by (N := N__law_lots) (sc := defScope s__law_lots) (by decide +kernel)) (fun _ _ _ _ _ => (dg_name (i := 3) rfl sc__law_lots.nd rfl (Or.inl rfl))) (fun _ _ _ _ _ => dts_nil) (fun _ _ _ _ _ => (de_op op_addD addD (dv 3) (de_tup (df_cons (dv 2) df_nil)))))))))
  (dss_one (ds_ret (dv 1)))))⟩
abbrev N__law_set : List Str := ["_law_one", "_law_other", "_law_lot", "_law_at"]
theorem sc__law_set : FnScope N__law_set ["_law_one", "_law_other", "_law_lot"] (defScope s__law_set) := ⟨rfl, rfl, rfl, by decide +kernel, rfl, by decide +kernel, by decide +kernel⟩
def m__law_set : M Val := runF 3 4 (sRet 3 (dCall (tupC) (aCons (dComp (M.bind (fCons (dCall (fn1 lenF) (aCons (dVar 0) aNil)) fNil) rng1) [3] (gN 3) tT (dIf (dAsk (dBin inV2 (dVar 3) (dVar 2))) (dBin ixV (dVar 1) (dVar 3)) (dBin ixV (dVar 0) (dVar 3)))) aNil)))
theorem ok__law_set {fd : FuncData} (F : FunD K "_law_set" "_law_set" (defArgs s__law_set) (defBody s__law_set) (defScope s__law_set) [] [] (He.ga K "_law_set") fd) (hm : mg "_law_set" = some (.ref (He.ga K "_law_set"))) (T : Txt K mg)  : Callee P w K mg base "_law_set" 1 ["_law_one", "_law_other", "_law_lot"] m__law_set :=
  ⟨fd, hm, F.kp, F.bindsN (fun _ _ _ _ _ _ us hl => match us, hl with | [_, _, _], _ => rfl), dfn_ok F sc__law_set (by decide) fun cdv A outer s H E hr => (dss_one (ds_ret (dty T.f_tuple call_tuple_of tupD (da_cons (de_comp (own := [("_law_at", 3)]) rfl sc__law_set.nd (di_range1 rfl T.f_range (df_cons (dbi T.f_len call_len lenD (da_cons (dv 0) da_nil)) df_nil)) (blkOk_by (N := N__law_set) (sc := defScope s__law_set) (by decide +kernel)) (fun _ _ _ _ _ => (dg_name (i := 3) rfl sc__law_set.nd rfl (Or.inl rfl))) (fun _ _ _ _ _ => dts_nil) (fun _ _ _ _ _ => (de_if (dt_cmp (op_in2 (hu65 hr)) in2D (dv 3) (dv 2) (by rfl)) (de_ix (dv 1) (dv 3) (fun _ _ => rfl)) (de_ix (dv 0) (dv 3) (fun _ _ => rfl))))) da_nil))))⟩
abbrev N__law_between : List Str := ["_law_places", "_law_one", "_law_other", "_law_order", "_law_found", "_law_at", "_law_ahead", "_law_here", "_law_spot", "_law_lot"]
theorem sc__law_between : FnScope N__law_between ["_law_places", "_law_one", "_law_other", "_law_order"] (defScope s__law_between) := ⟨rfl, rfl, rfl, by decide +kernel, rfl, by decide +kernel, by decide +kernel⟩
def m__law_between : M Val := runF 4 10 (sSeq (sSet 4 (dLst fNil))
  (sSeq (sFor (M.bind (fCons (dCall (fn1 lenF) (aCons (dVar 3) aNil)) fNil) rng1) (gN 5) (sSeq (sSet 6 (dComp (M.bind (fCons (dCall (fn1 lenF) (aCons (dVar 0) aNil)) fNil) rng1) [8] (gN 8) (tAndB (dAsk (dBin neV (dBin ixV (dVar 1) (dVar 8)) (dBin ixV (dVar 2) (dVar 8)))) (dAsk (dBin ltV (dMeth (indexM) (dVar 3) (fCons (dTup (fCons (dBin ixV (dVar 0) (dVar 8)) (fCons (dBin ixV (dVar 1) (dVar 8)) (fCons (dBin ixV (dVar 2) (dVar 8)) fNil)))) fNil)) (dVar 5)))) (dVar 8)))
  (sSeq (sSet 7 (dComp (M.bind (fCons (dCall (fn1 lenF) (aCons (dVar 0) aNil)) fNil) rng1) [8] (gN 8) (dAsk (dBin eqV (dTup (fCons (dBin ixV (dVar 0) (dVar 8)) (fCons (dBin ixV (dVar 1) (dVar 8)) (fCons (dBin ixV (dVar 2) (dVar 8)) fNil)))) (dBin ixV (dVar 3) (dVar 5)))) (dVar 8)))
  (sSet 4 (dBin addV (dVar 4) (dComp (iVal (dFn m__law_lots [] (aCons (dVar 7) aNil))) [9] (gN 9) tT (dFn m__law_set [] (aCons (dVar 1) (aCons (dVar 2) (aCons (dBin addV (dCall (tupC) (aCons (dVar 6) aNil)) (dVar 9)) aNil))))))))))
  (sRet 4 (dVar 4))))
theorem ok__law_between {fd : FuncData} (F : FunD K "_law_between" "_law_between" (defArgs s__law_between) (defBody s__law_between) (defScope s__law_between) [] [] (He.ga K "_law_between") fd) (hm : mg "_law_between" = some (.ref (He.ga K "_law_between"))) (T : Txt K mg) (C__law_lots : Callee P w K mg base "_law_lots" 1 ["_law_places"] m__law_lots) (C__law_set : Callee P w K mg base "_law_set" 1 ["_law_one", "_law_other", "_law_lot"] m__law_set) : Callee P w K mg base "_law_between" 2 ["_law_places", "_law_one", "_law_other", "_law_order"] m__law_between :=
  ⟨fd, hm, F.kp, F.bindsN (fun _ _ _ _ _ _ us hl => match us, hl with | [_, _, _, _], _ => rfl), dfn_ok F sc__law_between (by decide) fun cdv A outer s H E hr => (dss_cons (ds_set (i := 4) (by decide) sc__law_between.nd rfl (Or.inl rfl) (de_lst df_nil))
  (dss_cons (ds_for po_def rfl (di_range1 rfl T.f_range (df_cons (dbi T.f_len call_len lenD (da_cons (dv 3) da_nil)) df_nil)) (dg_name (i := 5) rfl sc__law_between.nd rfl (Or.inr rfl)) (dss_cons (ds_set (i := 6) (by decide) sc__law_between.nd rfl (Or.inr rfl) (de_comp (own := [("_law_spot", 8)]) rfl sc__law_between.nd (di_range1 rfl T.f_range (df_cons (dbi T.f_len call_len lenD (da_cons (dv 0) da_nil)) df_nil)) (blkOk_by (N := N__law_between) (sc := defScope s__law_between) (by decide +kernel)) (fun _ _ _ _ _ => (dg_name (i := 8) rfl sc__law_between.nd rfl (Or.inl rfl))) (fun _ _ _ _ _ => (dts_one (DW.dt (dw_and (dt_cmp (op_neD (hu64 hr)) neD (de_ix (dv 1) (dv 8) (fun _ _ => rfl)) (de_ix (dv 2) (dv 8) (fun _ _ => rfl)) (nomark _)) (dw_and1 (dt_cmp op_lt ltD (de_meth PySem.F.slot_list_index PySem.F.type_list_index (mt_indexD (hu65 hr)) indexMD (dv 3) (df_cons (de_tup (df_cons (de_ix (dv 0) (dv 8) (fun _ _ => rfl)) (df_cons (de_ix (dv 1) (dv 8) (fun _ _ => rfl)) (df_cons (de_ix (dv 2) (dv 8) (fun _ _ => rfl)) df_nil)))) df_nil)) (dv 5) (nomark _))))))) (fun _ _ _ _ _ => (dv 8))))
  (dss_cons (ds_setC (i := 7) (by decide) (own := [("_law_spot", 8)]) rfl sc__law_between.nd rfl rfl (sw_true rfl rfl rfl (by decide +kernel)) (di_range1 rfl T.f_range (df_cons (dbi T.f_len call_len lenD (da_cons (dv 0) da_nil)) df_nil)) (blkOk_by (N := N__law_between) (sc := defScope s__law_between) (by decide +kernel)) (fun _ _ _ _ _ => (dg_name (i := 8) rfl sc__law_between.nd rfl (Or.inl rfl))) (fun _ _ _ _ _ => (dts_one (dt_cmp (op_eqD (hu64 hr)) eqD (de_tup (df_cons (de_ix (dv 0) (dv 8) (fun _ _ => rfl)) (df_cons (de_ix (dv 1) (dv 8) (fun _ _ => rfl)) (df_cons (de_ix (dv 2) (dv 8) (fun _ _ => rfl)) df_nil)))) (de_ix (dv 3) (dv 5) (fun _ _ => rfl)) (nomark _)))) (fun _ _ _ _ _ => (dv 8)))
  (dss_one (ds_set (i := 4) (by decide) sc__law_between.nd rfl (Or.inl rfl) (de_op op_addD addD (dv 4) (de_comp (own := [("_law_lot", 9)]) rfl sc__law_between.nd (di_val (dcall C__law_lots (hr.mono (by decide)) tk_def (da_cons (dv 7) da_nil))) (blkOk_by (N := N__law_between) (sc := defScope s__law_between) (by decide +kernel)) (fun _ _ _ _ _ => (dg_name (i := 9) rfl sc__law_between.nd rfl (Or.inl rfl))) (fun _ _ _ _ _ => dts_nil) (fun _ _ _ _ _ => (dcall C__law_set (hr.mono (by decide)) L2.takes0 (da_cons (dv 1) (da_cons (dv 2) (da_cons (de_op op_addD addD (dty T.f_tuple call_tuple_of tupD (da_cons (dv 6) da_nil)) (dv 9)) da_nil))))))))))))
  (dss_one (ds_ret (dv 4)))))⟩
abbrev N__law_hull : List Str := ["_law_places", "_law_rows_here", "_law_order", "_law_found", "_law_turn", "_law_more", "_law_one", "_law_other", "_law_row"]
theorem sc__law_hull : FnScope N__law_hull ["_law_places", "_law_rows_here", "_law_order"] (defScope s__law_hull) := ⟨rfl, rfl, rfl, by decide +kernel, rfl, by decide +kernel, by decide +kernel⟩
def m__law_hull : M Val := runF 3 9 (sSeq (sSet 3 (dCall (listC2) (aCons (dVar 1) aNil)))
  (sSeq (sFor (M.bind (fCons (dC (.int 64)) fNil) rng1) (gN 4) (sSeq (sSet 5 (dLst fNil))
  (sSeq (sFor (iVal (dVar 3)) (gN 6) (sFor (iVal (dVar 3)) (gN 7) (sSet 5 (dBin addV (dVar 5) (dComp (iVal (dFn m__law_between [] (aCons (dVar 0) (aCons (dVar 6) (aCons (dVar 7) (aCons (dVar 2) aNil)))))) [8] (gN 8) (dAsk (dBin niV2 (dVar 8) (dVar 3))) (dVar 8))))))
  (sSeq (sIf (dAsk (dBin eqV (dVar 5) (dLst fNil))) SO.bk sNx)
  (sSet 3 (M.bind (dBin addV (dVar 3) (dVar 5)) setV5))))))
  (sRet 3 (dCall (sortC) (aCons (dVar 3) aNil)))))
theorem ok__law_hull {fd : FuncData} (F : FunD K "_law_hull" "_law_hull" (defArgs s__law_hull) (defBody s__law_hull) (defScope s__law_hull) [] [] (He.ga K "_law_hull") fd) (hm : mg "_law_hull" = some (.ref (He.ga K "_law_hull"))) (T : Txt K mg) (C__law_between : Callee P w K mg base "_law_between" 2 ["_law_places", "_law_one", "_law_other", "_law_order"] m__law_between) : Callee P w K mg base "_law_hull" 3 ["_law_places", "_law_rows_here", "_law_order"] m__law_hull :=
  ⟨fd, hm, F.kp, F.bindsN (fun _ _ _ _ _ _ us hl => match us, hl with | [_, _, _], _ => rfl), dfn_ok F sc__law_hull (by decide) fun cdv A outer s H E hr => (dss_cons (ds_set (i := 3) (by decide) sc__law_hull.nd rfl (Or.inr rfl) (dty T.f_list (call_list2 rfl) list2D (da_cons (dv 1) da_nil)))
  (dss_cons (ds_for po_def rfl (di_range1 rfl T.f_range (df_cons de_int df_nil)) (dg_name (i := 4) rfl sc__law_hull.nd rfl (Or.inl rfl)) (dss_cons (ds_set (i := 5) (by decide) sc__law_hull.nd rfl (Or.inl rfl) (de_lst df_nil))
  (dss_cons (ds_for po_def rfl (di_val (dv 3)) (dg_name (i := 6) rfl sc__law_hull.nd rfl (Or.inl rfl)) (dss_one (ds_for po_def rfl (di_val (dv 3)) (dg_name (i := 7) rfl sc__law_hull.nd rfl (Or.inl rfl)) (dss_one (ds_set (i := 5) (by decide) sc__law_hull.nd rfl (Or.inl rfl) (de_op op_addD addD (dv 5) (de_comp (own := [("_law_row", 8)]) rfl sc__law_hull.nd (di_val (dcall C__law_between (hr.mono (by decide)) tk_def (da_cons (dv 0) (da_cons (dv 6) (da_cons (dv 7) (da_cons (dv 2) da_nil)))))) (blkOk_by (N := N__law_hull) (sc := defScope s__law_hull) (by decide +kernel)) (fun _ _ _ _ _ => (dg_name (i := 8) rfl sc__law_hull.nd rfl (Or.inl rfl))) (fun _ _ _ _ _ => (dts_one (dt_cmp (op_ni2 (hu65 hr)) ni2D (dv 8) (dv 3) (by rfl)))) (fun _ _ _ _ _ => (dv 8)))))))))
  (dss_cons (ds_if (dt_cmp (op_eqD (hu64 hr)) eqD (dv 5) (de_lst df_nil) (nomark _)) (dss_one ds_break) dss_nil)
  (dss_one (ds_set (i := 3) (by decide) sc__law_hull.nd rfl (Or.inr rfl) (de_sortSet5 rfl (hu64 hr) T.f_sorted T.f_set (de_op op_addD addD (dv 3) (dv 5)))))))))
  (dss_one (ds_ret (dbi T.f_sorted (call_sortD (hu64 hr)) sortCD (da_cons (dv 3) da_nil))))))⟩
abbrev N__law_book : List Str := ["_law_box_here", "_law_shapes", "_law_checks", "_law_columns", "_law_order", "_law_found", "_law_style", "_law_check", "_law_places", "_law_whole", "_law_rows_here", "_law_place", "_law_row"]
theorem sc__law_book : FnScope N__law_book ["_law_box_here", "_law_shapes", "_law_checks"] (defScope s__law_book) := ⟨rfl, rfl, rfl, by decide +kernel, rfl, by decide +kernel, by decide +kernel⟩
def m__law_book : M Val := runF 3 13 (sSeq (sSet 3 (dFn m__law_pick [] (aCons (dVar 0) (aCons (dVar 1) aNil))))
  (sSeq (sPar [4, 5] (vCons (dFn m__law_mixed [] (aCons (dVar 0) (aCons (dFn m__law_kinds [] (aCons (dVar 3) aNil)) aNil))) (vCons (dLst fNil) vNil)))
  (sSeq (sSet 6 (dFn m__law_take [] (aCons (dVar 0) (aCons (dC (.int 4)) aNil))))
  (sSeq (sFor (M.bind (fCons (dFn m__law_take [] (aCons (dVar 0) (aCons (dBin addV (dVar 2) (dC (.int 1))) aNil))) fNil) rng1) (gN 7) (sSeq (sSet 8 (dCall (tupC) (aCons (dComp (M.bind (fCons (dBin addV (dC (.int 1)) (dFn m__law_take [] (aCons (dVar 0) (aCons (dC (.int 3)) aNil)))) fNil) rng1) [11] (gN 11) tT (dFn m__law_take [] (aCons (dVar 0) (aCons (dCall (fn1 lenF) (aCons (dVar 3) aNil)) aNil)))) aNil)))
  (sSeq (sSet 9 (dFn m__law_rows [] (aCons (dVar 3) (aCons (dVar 8) aNil))))
  (sSeq (sSet 10 (dIf (dAsk (dBin ltV (dCall (fn1 lenF) (aCons (dVar 9) aNil)) (dC (.int 28)))) (dComp (iVal (dVar 9)) [12] (gN 12) (dAsk (dBin eqV (dFn m__law_take [] (aCons (dVar 0) (aCons (dC (.int 3)) aNil))) (dC (.int 0)))) (dVar 12)) (dSl (dFn m__law_mixed [] (aCons (dVar 0) (aCons (dVar 9) aNil))) pNone (pSome (dC (.int 5))))))
  (sSeq (sIf (tAndB (dAsk (dBin gtV (dVar 6) (dC (.int 0)))) (tOrB (dAsk (dBin ltV (dVar 6) (dC (.int 3)))) (dAsk (dBin eqV (dFn m__law_take [] (aCons (dVar 0) (aCons (dC (.int 2)) aNil))) (dC (.int 0)))))) (sSet 10 (dIf (dAsk (dBin neV (dVar 4) (dLst fNil))) (dFn m__law_hull [] (aCons (dVar 8) (aCons (dSl (dVar 10) pNone (pSome (dC (.int 4)))) (aCons (dVar 4) aNil)))) (dVar 10))) sNx)
  (sDrop (dMeth (lstM appF) (dVar 5) (fCons (dTup (fCons (dVar 8) (fCons (dIf (dAsk (dBin gtV (dFn m__law_take [] (aCons (dVar 0) (aCons (dC (.int 12)) aNil))) (dC (.int 0)))) (dVar 10) (dFn m__law_pick [] (aCons (dVar 0) (aCons (dLst (fCons (dLst fNil) (fCons (dVar 9) fNil))) aNil)))) fNil))) fNil))))))))
  (sRet 3 (dTup (fCons (dCall (tupC) (aCons (dVar 3) aNil)) (fCons (dVar 5) fNil))))))))
theorem ok__law_book {fd : FuncData} (F : FunD K "_law_book" "_law_book" (defArgs s__law_book) (defBody s__law_book) (defScope s__law_book) [] [] (He.ga K "_law_book") fd) (hm : mg "_law_book" = some (.ref (He.ga K "_law_book"))) (T : Txt K mg) (C__law_pick : Callee P w K mg base "_law_pick" 2 ["_law_box_here", "_law_some"] m__law_pick) (C__law_mixed : Callee P w K mg base "_law_mixed" 2 ["_law_box_here", "_law_things"] m__law_mixed) (C__law_kinds : Callee P w K mg base "_law_kinds" 1 ["_law_columns"] m__law_kinds) (C__law_take : Callee P w K mg base "_law_take" 1 ["_law_box_here", "_law_many"] m__law_take) (C__law_rows : Callee P w K mg base "_law_rows" 1 ["_law_columns", "_law_places"] m__law_rows) (C__law_hull : Callee P w K mg base "_law_hull" 3 ["_law_places", "_law_rows_here", "_law_order"] m__law_hull) : Callee P w K mg base "_law_book" 4 ["_law_box_here", "_law_shapes", "_law_checks"] m__law_book :=
  ⟨fd, hm, F.kp, F.bindsN (fun _ _ _ _ _ _ us hl => match us, hl with | [_, _, _], _ => rfl), dfn_ok F sc__law_book (by decide) fun cdv A outer s H E hr => (dss_cons (ds_set (i := 3) (by decide) sc__law_book.nd rfl (Or.inr rfl) (dcall C__law_pick (hr.mono (by decide)) tk_def (da_cons (dv 0) (da_cons (dv 1) da_nil))))
  (dss_cons (ds_par2 (i := 4 ) (j := 5) (by decide) rfl sc__law_book.nd rfl rfl (by decide) rfl rfl  (dv_cons (dcall C__law_mixed (hr.mono (by decide)) tk_def (da_cons (dv 0) (da_cons (dcall C__law_kinds (hr.mono (by decide)) tk_def (da_cons (dv 3) da_nil)) da_nil))) (dv_cons (de_lst df_nil) dv_nil)))
  (dss_cons (ds_set (i := 6) (by decide) sc__law_book.nd rfl (Or.inl rfl) (dcall C__law_take (hr.mono (by decide)) tk_def (da_cons (dv 0) (da_cons de_int da_nil))))
  (dss_cons (ds_for po_def rfl (di_range1 rfl T.f_range (df_cons (dcall C__law_take (hr.mono (by decide)) tk_def (da_cons (dv 0) (da_cons (de_op op_addD addD (dv 2) de_int) da_nil))) df_nil)) (dg_name (i := 7) rfl sc__law_book.nd rfl (Or.inl rfl)) (dss_cons (ds_set (i := 8) (by decide) sc__law_book.nd rfl (Or.inl rfl) (dty T.f_tuple call_tuple_of tupD (da_cons (de_comp (own := [("_law_place", 11)]) rfl sc__law_book.nd (di_range1 rfl T.f_range (df_cons (de_op op_addD addD de_int (dcall C__law_take (hr.mono (by decide)) tk_def (da_cons (dv 0) (da_cons de_int da_nil)))) df_nil)) (blkOk_by (N := N__law_book) (sc := defScope s__law_book) (by decide +kernel)) (fun _ _ _ _ _ => (dg_name (i := 11) rfl sc__law_book.nd rfl (Or.inl rfl))) (fun _ _ _ _ _ => dts_nil) (fun _ _ _ _ _ => (dcall C__law_take (hr.mono (by decide)) L2.takes0 (da_cons (dv 0) (da_cons (dbi T.f_len call_len lenD (da_cons (dv 3) da_nil)) da_nil))))) da_nil)))
  (dss_cons (ds_set (i := 9) (by decide) sc__law_book.nd rfl (Or.inl rfl) (dcall C__law_rows (hr.mono (by decide)) tk_def (da_cons (dv 3) (da_cons (dv 8) da_nil))))
  (dss_cons (ds_set (i := 10) (by decide) sc__law_book.nd rfl (Or.inl rfl) (de_if (dt_cmp op_lt ltD (dbi T.f_len call_len lenD (da_cons (dv 9) da_nil)) de_int (nomark _)) (de_comp (own := [("_law_row", 12)]) rfl sc__law_book.nd (di_val (dv 9)) (blkOk_by (N := N__law_book) (sc := defScope s__law_book) (by decide +kernel)) (fun _ _ _ _ _ => (dg_name (i := 12) rfl sc__law_book.nd rfl (Or.inl rfl))) (fun _ _ _ _ _ => (dts_one (dt_cmp (op_eqD (hu64 hr)) eqD (dcall C__law_take (hr.mono (by decide)) L2.takes0 (da_cons (dv 0) (da_cons de_int da_nil))) de_int (nomark _)))) (fun _ _ _ _ _ => (dv 12))) (de_sl (dcall C__law_mixed (hr.mono (by decide)) tk_def (da_cons (dv 0) (da_cons (dv 9) da_nil))) do_none (do_some de_int))))
  (dss_cons (ds_if (DW.dt (dw_and (dt_cmp op_gt gtD (dv 6) de_int (nomark _)) (dw_and1 (DW.dt (dw_or (dt_cmp op_lt ltD (dv 6) de_int (nomark _)) (dw_or1 (dt_cmp (op_eqD (hu64 hr)) eqD (dcall C__law_take (hr.mono (by decide)) tk_def (da_cons (dv 0) (da_cons de_int da_nil))) de_int (nomark _)))))))) (dss_one (ds_set (i := 10) (by decide) sc__law_book.nd rfl (Or.inl rfl) (de_if (dt_cmp (op_neD (hu64 hr)) neD (dv 4) (de_lst df_nil) (nomark _)) (dcall C__law_hull (hr.mono (by decide)) tk_def (da_cons (dv 8) (da_cons (de_sl (dv 10) do_none (do_some de_int)) (da_cons (dv 4) da_nil)))) (dv 10)))) dss_nil)
  (dss_one (ds_expr (de_meth PySem.F.slot_list_append PySem.F.type_list_append mt_append appD (dv 5) (df_cons (de_tup (df_cons (dv 8) (df_cons (de_if (dt_cmp op_gt gtD (dcall C__law_take (hr.mono (by decide)) tk_def (da_cons (dv 0) (da_cons de_int da_nil))) de_int (nomark _)) (dv 10) (dcall C__law_pick (hr.mono (by decide)) tk_def (da_cons (dv 0) (da_cons (de_lst (df_cons (de_lst df_nil) (df_cons (dv 9) df_nil))) da_nil)))) df_nil))) df_nil)))))))))
  (dss_one (ds_ret (de_tup (df_cons (dty T.f_tuple call_tuple_of tupD (da_cons (dv 3) da_nil)) (df_cons (dv 5) df_nil)))))))))⟩
abbrev N__law_good : List Str := ["_law_checks", "_law_laid", "_law_state", "_law_one", "_law_cell"]
theorem sc__law_good : FnScope N__law_good ["_law_checks", "_law_laid", "_law_state"] (defScope s__law_good) := ⟨rfl, rfl, rfl, by decide +kernel, rfl, by decide +kernel, by decide +kernel⟩
def m__law_good : M Val := runF 3 5 (sRet 3 (dBin eqV (dComp (iVal (dVar 1)) [3] (gN 3) (dAsk (dBin niV2 (dCall (tupC) (aCons (dComp (iVal (dBin ixV (dVar 3) (dC (.int 1)))) [4] (gN 4) tT (dBin ixV (dVar 2) (dVar 4))) aNil)) (dBin ixV (dBin ixV (dVar 0) (dBin ixV (dVar 3) (dC (.int 0)))) (dC (.int 1))))) (dVar 3)) (dLst fNil)))
theorem ok__law_good {fd : FuncData} (F : FunD K "_law_good" "_law_good" (defArgs s__law_good) (defBody s__law_good) (defScope s__law_good) [] [] (He.ga K "_law_good") fd) (hm : mg "_law_good" = some (.ref (He.ga K "_law_good"))) (T : Txt K mg)  : Callee P w K mg base "_law_good" 1 ["_law_checks", "_law_laid", "_law_state"] m__law_good :=
  ⟨fd, hm, F.kp, F.bindsN (fun _ _ _ _ _ _ us hl => match us, hl with | [_, _, _], _ => rfl), dfn_ok F sc__law_good (by decide) fun cdv A outer s H E hr => (dss_one (ds_ret (de_cmp (op_eqD (hu64 hr)) eqD (de_comp (own := [("_law_one", 3)]) rfl sc__law_good.nd (di_val (dv 1)) (blkOk_by (N := N__law_good) (sc := defScope s__law_good) (by decide +kernel)) (fun _ _ _ _ _ => (dg_name (i := 3) rfl sc__law_good.nd rfl (Or.inl rfl))) (fun _ _ _ _ _ => (dts_one (dt_cmp (op_ni2 (hu65 hr)) ni2D (dty T.f_tuple call_tuple_of tupD (da_cons (de_compI (own := [("_law_cell", 4)]) rfl sc__law_good.nd (di_val (de_ix (dv 3) de_int (fun _ _ => rfl))) (N := N__law_good) (scF := defScope s__law_good) rfl rfl (blkOk_by (by decide +kernel)) (fun _ _ _ _ _ => (dg_name (i := 4) rfl sc__law_good.nd rfl (Or.inl rfl))) (fun _ _ _ _ _ => dts_nil) (fun _ _ _ _ _ => (de_ix (dv 2) (dv 4) (fun _ _ => rfl)))) da_nil)) (de_ix (de_ix (dv 0) (de_ix (dv 3) de_int (fun _ _ => rfl)) (fun _ _ => rfl)) de_int (fun _ _ => rfl)) (by rfl)))) (fun _ _ _ _ _ => (dv 3))) (de_lst df_nil) (nomark _))))⟩
abbrev N__law_store : List Str := ["_law_box_here", "_law_columns", "_law_checks", "_law_cells", "_law_laid", "_law_turn", "_law_check", "_law_some", "_law_cell", "_law_column", "_law_one"]
theorem sc__law_store : FnScope N__law_store ["_law_box_here", "_law_columns", "_law_checks"] (defScope s__law_store) := ⟨rfl, rfl, rfl, by decide +kernel, rfl, by decide +kernel, by decide +kernel⟩
def m__law_store : M Val := runF 3 11 (sSeq (sPar [3, 4] (vCons (dComp (M.bind (fCons (dBin addV (dC (.int 2)) (dFn m__law_take [] (aCons (dVar 0) (aCons (dC (.int 5)) aNil)))) fNil) rng1) [8] (gN 8) tT (dFn m__law_take [] (aCons (dVar 0) (aCons (dCall (fn1 lenF) (aCons (dVar 1) aNil)) aNil)))) (vCons (dLst fNil) vNil)))
  (sSeq (sFor (M.bind (fCons (dIf (dAsk (dBin neV (dVar 2) (dLst fNil))) (dFn m__law_take [] (aCons (dVar 0) (aCons (dC (.int 6)) aNil))) (dC (.int 0))) fNil) rng1) (gN 5) (sSeq (sSet 6 (dFn m__law_take [] (aCons (dVar 0) (aCons (dCall (fn1 lenF) (aCons (dVar 2) aNil)) aNil))))
  (sSeq (sSet 7 (dComp (iVal (dBin ixV (dBin ixV (dVar 2) (dVar 6)) (dC (.int 0)))) [9] (gN 9) tT (dComp (M.bind (fCons (dCall (fn1 lenF) (aCons (dVar 3) aNil)) fNil) rng1) [8] (gN 8) (dAsk (dBin eqV (dBin ixV (dVar 3) (dVar 8)) (dVar 9))) (dVar 8))))
  (sIf (dAsk (dBin niV2 (dLst fNil) (dVar 7))) (sDrop (dMeth (lstM appF) (dVar 4) (fCons (dTup (fCons (dVar 6) (fCons (dComp (iVal (dVar 7)) [10] (gN 10) tT (dFn m__law_pick [] (aCons (dVar 0) (aCons (dVar 10) aNil)))) fNil))) fNil))) sNx))))
  (sRet 3 (dTup (fCons (dVar 3) (fCons (dVar 4) fNil))))))
theorem ok__law_store {fd : FuncData} (F : FunD K "_law_store" "_law_store" (defArgs s__law_store) (defBody s__law_store) (defScope s__law_store) [] [] (He.ga K "_law_store") fd) (hm : mg "_law_store" = some (.ref (He.ga K "_law_store"))) (T : Txt K mg) (C__law_take : Callee P w K mg base "_law_take" 1 ["_law_box_here", "_law_many"] m__law_take) (C__law_pick : Callee P w K mg base "_law_pick" 2 ["_law_box_here", "_law_some"] m__law_pick) : Callee P w K mg base "_law_store" 3 ["_law_box_here", "_law_columns", "_law_checks"] m__law_store :=
  ⟨fd, hm, F.kp, F.bindsN (fun _ _ _ _ _ _ us hl => match us, hl with | [_, _, _], _ => rfl), dfn_ok F sc__law_store (by decide) fun cdv A outer s H E hr => (dss_cons (ds_parT (is := [3, 4]) (by decide) rfl (pgs_cons (pg_name (i := 3) sc__law_store.nd rfl (Or.inr rfl)) (pgs_cons (pg_name (i := 4) sc__law_store.nd rfl (Or.inl rfl)) pgs_nil)) (dv_cons (de_comp (own := [("_law_cell", 8)]) rfl sc__law_store.nd (di_range1 rfl T.f_range (df_cons (de_op op_addD addD de_int (dcall C__law_take (hr.mono (by decide)) tk_def (da_cons (dv 0) (da_cons de_int da_nil)))) df_nil)) (blkOk_by (N := N__law_store) (sc := defScope s__law_store) (by decide +kernel)) (fun _ _ _ _ _ => (dg_name (i := 8) rfl sc__law_store.nd rfl (Or.inl rfl))) (fun _ _ _ _ _ => dts_nil) (fun _ _ _ _ _ => (dcall C__law_take (hr.mono (by decide)) L2.takes0 (da_cons (dv 0) (da_cons (dbi T.f_len call_len lenD (da_cons (dv 1) da_nil)) da_nil))))) (dv_cons (de_lst df_nil) dv_nil)) rfl (by decide))
  (dss_cons (ds_for po_def rfl (di_range1 rfl T.f_range (df_cons (de_if (dt_cmp (op_neD (hu64 hr)) neD (dv 2) (de_lst df_nil) (nomark _)) (dcall C__law_take (hr.mono (by decide)) tk_def (da_cons (dv 0) (da_cons de_int da_nil))) de_int) df_nil)) (dg_name (i := 5) rfl sc__law_store.nd rfl (Or.inl rfl)) (dss_cons (ds_set (i := 6) (by decide) sc__law_store.nd rfl (Or.inl rfl) (dcall C__law_take (hr.mono (by decide)) tk_def (da_cons (dv 0) (da_cons (dbi T.f_len call_len lenD (da_cons (dv 2) da_nil)) da_nil))))
  (dss_cons (ds_setC (i := 7) (by decide) (own := [("_law_column", 9)]) rfl sc__law_store.nd rfl rfl (sw_true rfl rfl rfl (by decide +kernel)) (di_val (de_ix (de_ix (dv 2) (dv 6) (fun _ _ => rfl)) de_int (fun _ _ => rfl))) (blkOk_by (N := N__law_store) (sc := defScope s__law_store) (by decide +kernel)) (fun _ _ _ _ _ => (dg_name (i := 9) rfl sc__law_store.nd rfl (Or.inr rfl))) (fun _ _ _ _ _ => dts_nil) (fun _ _ _ _ _ => (de_compI (own := [("_law_cell", 8)]) rfl sc__law_store.nd (di_range1 rfl T.f_range (df_cons (dbi T.f_len call_len lenD (da_cons (dv 3) da_nil)) df_nil)) (N := N__law_store) (scF := defScope s__law_store) rfl rfl (blkOk_by (by decide +kernel)) (fun _ _ _ _ _ => (dg_name (i := 8) rfl sc__law_store.nd rfl (Or.inl rfl))) (fun _ _ _ _ _ => (dts_one (dt_cmp (op_eqD (hu64 hr)) eqD (de_ix (dv 3) (dv 8) (fun _ _ => rfl)) (dv 9) (nomark _)))) (fun _ _ _ _ _ => (dv 8)))))
  (dss_one (ds_if (dt_cmp (op_ni2 (hu65 hr)) ni2D (de_lst df_nil) (dv 7) (by rfl)) (dss_one (ds_expr (de_meth PySem.F.slot_list_append PySem.F.type_list_append mt_append appD (dv 4) (df_cons (de_tup (df_cons (dv 6) (df_cons (de_comp (own := [("_law_one", 10)]) rfl sc__law_store.nd (di_val (dv 7)) (blkOk_by (N := N__law_store) (sc := defScope s__law_store) (by decide +kernel)) (fun _ _ _ _ _ => (dg_name (i := 10) rfl sc__law_store.nd rfl (Or.inl rfl))) (fun _ _ _ _ _ => dts_nil) (fun _ _ _ _ _ => (dcall C__law_pick (hr.mono (by decide)) L2.takes0 (da_cons (dv 0) (da_cons (dv 10) da_nil))))) df_nil))) df_nil)))) dss_nil)))))
  (dss_one (ds_ret (de_tup (df_cons (dv 3) (df_cons (dv 4) df_nil)))))))⟩
abbrev N__law_states : List Str := ["_law_box_here", "_law_columns", "_law_checks", "_law_cells", "_law_laid", "_law_found", "_law_turn", "_law_state", "_law_cell", "_law_column"]
theorem sc__law_states : FnScope N__law_states ["_law_box_here", "_law_columns", "_law_checks", "_law_cells", "_law_laid"] (defScope s__law_states) := ⟨rfl, rfl, rfl, by decide +kernel, rfl, by decide +kernel, by decide +kernel⟩
def m__law_states : M Val := runF 5 10 (sSeq (sSet 5 (dLst fNil))
  (sSeq (sFor (M.bind (fCons (dC (.int 60)) fNil) rng1) (gN 6) (sSeq (sSet 7 (dComp (iVal (dVar 3)) [9] (gN 9) tT (dFn m__law_take [] (aCons (dVar 0) (aCons (dBin ixV (dVar 1) (dVar 9)) aNil)))))
  (sSeq (sIf (tAndB (dAsk (dBin neV (dVar 5) (dLst fNil))) (dAsk (dBin eqV (dFn m__law_take [] (aCons (dVar 0) (aCons (dC (.int 2)) aNil))) (dC (.int 0))))) (sSeq (sPar [7, 8] (vCons (dCall (listC2) (aCons (dFn m__law_pick [] (aCons (dVar 0) (aCons (dVar 5) aNil))) aNil)) (vCons (dFn m__law_take [] (aCons (dVar 0) (aCons (dCall (fn1 lenF) (aCons (dVar 3) aNil)) aNil))) vNil)))
  (sSub (dFn m__law_take [] (aCons (dVar 0) (aCons (dBin ixV (dVar 1) (dBin ixV (dVar 3) (dVar 8))) aNil))) (dVar 7) (dVar 8))) sNx)
  (sIf (tAndB (dAsk (dFn m__law_good [] (aCons (dVar 2) (aCons (dVar 4) (aCons (dVar 7) aNil))))) (dAsk (dBin niV2 (dCall (tupC) (aCons (dVar 7) aNil)) (dVar 5)))) (sDrop (dMeth (lstM appF) (dVar 5) (fCons (dCall (tupC) (aCons (dVar 7) aNil)) fNil))) sNx))))
  (sRet 5 (dVar 5))))
theorem ok__law_states {fd : FuncData} (F : FunD K "_law_states" "_law_states" (defArgs s__law_states) (defBody s__law_states) (defScope s__law_states) [] [] (He.ga K "_law_states") fd) (hm : mg "_law_states" = some (.ref (He.ga K "_law_states"))) (T : Txt K mg) (C__law_take : Callee P w K mg base "_law_take" 1 ["_law_box_here", "_law_many"] m__law_take) (C__law_pick : Callee P w K mg base "_law_pick" 2 ["_law_box_here", "_law_some"] m__law_pick) (C__law_good : Callee P w K mg base "_law_good" 1 ["_law_checks", "_law_laid", "_law_state"] m__law_good) : Callee P w K mg base "_law_states" 3 ["_law_box_here", "_law_columns", "_law_checks", "_law_cells", "_law_laid"] m__law_states :=
  ⟨fd, hm, F.kp, F.bindsN (fun _ _ _ _ _ _ us hl => match us, hl with | [_, _, _, _, _], _ => rfl), dfn_ok F sc__law_states (by decide) fun cdv A outer s H E hr => (dss_cons (ds_set (i := 5) (by decide) sc__law_states.nd rfl (Or.inl rfl) (de_lst df_nil))
  (dss_cons (ds_for po_def rfl (di_range1 rfl T.f_range (df_cons de_int df_nil)) (dg_name (i := 6) rfl sc__law_states.nd rfl (Or.inl rfl)) (dss_cons (ds_setC (i := 7) (by decide) (own := [("_law_column", 9)]) rfl sc__law_states.nd rfl rfl (sw_true rfl rfl rfl (by decide +kernel)) (di_val (dv 3)) (blkOk_by (N := N__law_states) (sc := defScope s__law_states) (by decide +kernel)) (fun _ _ _ _ _ => (dg_name (i := 9) rfl sc__law_states.nd rfl (Or.inl rfl))) (fun _ _ _ _ _ => dts_nil) (fun _ _ _ _ _ => (dcall C__law_take (hr.mono (by decide)) L2.takes0 (da_cons (dv 0) (da_cons (de_ix (dv 1) (dv 9) (fun _ _ => rfl)) da_nil)))))
  (dss_cons (ds_if (DW.dt (dw_and (dt_cmp (op_neD (hu64 hr)) neD (dv 5) (de_lst df_nil) (nomark _)) (dw_and1 (dt_cmp (op_eqD (hu64 hr)) eqD (dcall C__law_take (hr.mono (by decide)) tk_def (da_cons (dv 0) (da_cons de_int da_nil))) de_int (nomark _))))) (dss_cons (ds_par2 (i := 7 ) (j := 8) (by decide) rfl sc__law_states.nd rfl rfl (by decide) rfl rfl  (dv_cons (dty T.f_list (call_list2 rfl) list2D (da_cons (dcall C__law_pick (hr.mono (by decide)) tk_def (da_cons (dv 0) (da_cons (dv 5) da_nil))) da_nil)) (dv_cons (dcall C__law_take (hr.mono (by decide)) tk_def (da_cons (dv 0) (da_cons (dbi T.f_len call_len lenD (da_cons (dv 3) da_nil)) da_nil))) dv_nil)))
  (dss_one (ds_sub (dcall C__law_take (hr.mono (by decide)) tk_def (da_cons (dv 0) (da_cons (de_ix (dv 1) (de_ix (dv 3) (dv 8) (fun _ _ => rfl)) (fun _ _ => rfl)) da_nil))) (dv 7) (dv 8)))) dss_nil)
  (dss_one (ds_if (DW.dt (dw_and (dt_val (dcall C__law_good (hr.mono (by decide)) tk_def (da_cons (dv 2) (da_cons (dv 4) (da_cons (dv 7) da_nil))))) (dw_and1 (dt_cmp (op_ni2 (hu65 hr)) ni2D (dty T.f_tuple call_tuple_of tupD (da_cons (dv 7) da_nil)) (dv 5) (by rfl))))) (dss_one (ds_expr (de_meth PySem.F.slot_list_append PySem.F.type_list_append mt_append appD (dv 5) (df_cons (dty T.f_tuple call_tuple_of tupD (da_cons (dv 7) da_nil)) df_nil)))) dss_nil)))))
  (dss_one (ds_ret (dv 5)))))⟩
abbrev N__law_sorted : List Str := ["_law_box_here", "_law_cells", "_law_old", "_law_new", "_law_layers", "_law_kinds_here", "_law_found", "_law_layer", "_law_cell"]
theorem sc__law_sorted : FnScope N__law_sorted ["_law_box_here", "_law_cells", "_law_old", "_law_new", "_law_layers"] (defScope s__law_sorted) := ⟨rfl, rfl, rfl, by decide +kernel, rfl, by decide +kernel, by decide +kernel⟩
def m__law_sorted : M Val := runF 5 9 (sSeq (sSet 5 (dComp (M.bind (fCons (dCall (fn1 lenF) (aCons (dVar 1) aNil)) fNil) rng1) [8] (gN 8) tT (dTup (fCons (dBin ixV (dVar 1) (dVar 8)) (fCons (dBin ixV (dVar 2) (dVar 8)) (fCons (dBin ixV (dVar 3) (dVar 8)) fNil))))))
  (sSeq (sSet 6 (dLst fNil))
  (sSeq (sFor (iVal (dVar 4)) (gN 7) (sSet 6 (dBin addV (dVar 6) (dFn m__law_mixed [] (aCons (dVar 0) (aCons (dComp (M.bind (fCons (dCall (fn1 lenF) (aCons (dVar 1) aNil)) fNil) rng1) [8] (gN 8) (dAsk (dBin inV2 (dBin ixV (dVar 5) (dVar 8)) (dVar 7))) (dVar 8)) aNil))))))
  (sRet 5 (dIf (dAsk (dBin eqV (dCall (fn1 lenF) (aCons (dVar 6) aNil)) (dCall (fn1 lenF) (aCons (dComp (M.bind (fCons (dCall (fn1 lenF) (aCons (dVar 1) aNil)) fNil) rng1) [8] (gN 8) (dAsk (dBin neV (dBin ixV (dVar 2) (dVar 8)) (dBin ixV (dVar 3) (dVar 8)))) (dVar 8)) aNil)))) (dVar 6) (dC .non))))))
theorem ok__law_sorted {fd : FuncData} (F : FunD K "_law_sorted" "_law_sorted" (defArgs s__law_sorted) (defBody s__law_sorted) (defScope s__law_sorted) [] [] (He.ga K "_law_sorted") fd) (hm : mg "_law_sorted" = some (.ref (He.ga K "_law_sorted"))) (T : Txt K mg) (C__law_mixed : Callee P w K mg base "_law_mixed" 2 ["_law_box_here", "_law_things"] m__law_mixed) : Callee P w K mg base "_law_sorted" 3 ["_law_box_here", "_law_cells", "_law_old", "_law_new", "_law_layers"] m__law_sorted :=
  ⟨fd, hm, F.kp, F.bindsN (fun _ _ _ _ _ _ us hl => match us, hl with | [_, _, _, _, _], _ => rfl), dfn_ok F sc__law_sorted (by decide) fun cdv A outer s H E hr => (dss_cons (ds_set (i := 5) (by decide) sc__law_sorted.nd rfl (Or.inr rfl) (de_comp (own := [("_law_cell", 8)]) rfl sc__law_sorted.nd (di_range1 rfl T.f_range (df_cons (dbi T.f_len call_len lenD (da_cons (dv 1) da_nil)) df_nil)) (blkOk_by (N := N__law_sorted) (sc := defScope s__law_sorted) (by decide +kernel)) (fun _ _ _ _ _ => (dg_name (i := 8) rfl sc__law_sorted.nd rfl (Or.inl rfl))) (fun _ _ _ _ _ => dts_nil) (fun _ _ _ _ _ => (de_tup (df_cons (de_ix (dv 1) (dv 8) (fun _ _ => rfl)) (df_cons (de_ix (dv 2) (dv 8) (fun _ _ => rfl)) (df_cons (de_ix (dv 3) (dv 8) (fun _ _ => rfl)) df_nil)))))))
  (dss_cons (ds_set (i := 6) (by decide) sc__law_sorted.nd rfl (Or.inl rfl) (de_lst df_nil))
  (dss_cons (ds_for po_def rfl (di_val (dv 4)) (dg_name (i := 7) rfl sc__law_sorted.nd rfl (Or.inr rfl)) (dss_one (ds_set (i := 6) (by decide) sc__law_sorted.nd rfl (Or.inl rfl) (de_op op_addD addD (dv 6) (dcall C__law_mixed (hr.mono (by decide)) tk_def (da_cons (dv 0) (da_cons (de_comp (own := [("_law_cell", 8)]) rfl sc__law_sorted.nd (di_range1 rfl T.f_range (df_cons (dbi T.f_len call_len lenD (da_cons (dv 1) da_nil)) df_nil)) (blkOk_by (N := N__law_sorted) (sc := defScope s__law_sorted) (by decide +kernel)) (fun _ _ _ _ _ => (dg_name (i := 8) rfl sc__law_sorted.nd rfl (Or.inl rfl))) (fun _ _ _ _ _ => (dts_one (dt_cmp (op_in2 (hu65 hr)) in2D (de_ix (dv 5) (dv 8) (fun _ _ => rfl)) (dv 7) (by rfl)))) (fun _ _ _ _ _ => (dv 8))) da_nil)))))))
  (dss_one (ds_ret (de_if (dt_cmp (op_eqD (hu64 hr)) eqD (dbi T.f_len call_len lenD (da_cons (dv 6) da_nil)) (dbi T.f_len call_len lenD (da_cons (de_comp (own := [("_law_cell", 8)]) rfl sc__law_sorted.nd (di_range1 rfl T.f_range (df_cons (dbi T.f_len call_len lenD (da_cons (dv 1) da_nil)) df_nil)) (blkOk_by (N := N__law_sorted) (sc := defScope s__law_sorted) (by decide +kernel)) (fun _ _ _ _ _ => (dg_name (i := 8) rfl sc__law_sorted.nd rfl (Or.inl rfl))) (fun _ _ _ _ _ => (dts_one (dt_cmp (op_neD (hu64 hr)) neD (de_ix (dv 2) (dv 8) (fun _ _ => rfl)) (de_ix (dv 3) (dv 8) (fun _ _ => rfl)) (nomark _)))) (fun _ _ _ _ _ => (dv 8))) da_nil)) (nomark _)) (dv 6) de_non))))))⟩
abbrev N__law_way_right : List Str := ["_law_checks", "_law_laid", "_law_old", "_law_new", "_law_order", "_law_stop", "_law_state", "_law_cell"]
theorem sc__law_way_right : FnScope N__law_way_right ["_law_checks", "_law_laid", "_law_old", "_law_new", "_law_order", "_law_stop"] (defScope s__law_way_right) := ⟨rfl, rfl, rfl, by decide +kernel, rfl, by decide +kernel, by decide +kernel⟩
def m__law_way_right : M Val := runF 6 8 (sSeq (sSet 6 (dCall (listC2) (aCons (dVar 2) aNil)))
  (sSeq (sFor (iVal (dSl (dVar 4) pNone (pSome (dVar 5)))) (gN 7) (sSeq (sSub (dBin ixV (dVar 3) (dVar 7)) (dVar 6) (dVar 7))
  (sIf (tNotB (dAsk (dFn m__law_good [] (aCons (dVar 0) (aCons (dVar 1) (aCons (dVar 6) aNil)))))) (sRet 6 (dC .non)) sNx)))
  (sRet 6 (dCall (tupC) (aCons (dVar 6) aNil)))))
theorem ok__law_way_right {fd : FuncData} (F : FunD K "_law_way_right" "_law_way_right" (defArgs s__law_way_right) (defBody s__law_way_right) (defScope s__law_way_right) [] [] (He.ga K "_law_way_right") fd) (hm : mg "_law_way_right" = some (.ref (He.ga K "_law_way_right"))) (T : Txt K mg) (C__law_good : Callee P w K mg base "_law_good" 1 ["_law_checks", "_law_laid", "_law_state"] m__law_good) : Callee P w K mg base "_law_way_right" 2 ["_law_checks", "_law_laid", "_law_old", "_law_new", "_law_order", "_law_stop"] m__law_way_right :=
  ⟨fd, hm, F.kp, F.bindsN (fun _ _ _ _ _ _ us hl => match us, hl with | [_, _, _, _, _, _], _ => rfl), dfn_ok F sc__law_way_right (by decide) fun cdv A outer s H E hr => (dss_cons (ds_set (i := 6) (by decide) sc__law_way_right.nd rfl (Or.inl rfl) (dty T.f_list (call_list2 rfl) list2D (da_cons (dv 2) da_nil)))
  (dss_cons (ds_for po_def rfl (di_val (de_sl (dv 4) do_none (do_some (dv 5)))) (dg_name (i := 7) rfl sc__law_way_right.nd rfl (Or.inl rfl)) (dss_cons (ds_sub (de_ix (dv 3) (dv 7) (fun _ _ => rfl)) (dv 6) (dv 7))
  (dss_one (ds_if (dt_not (dt_val (dcall C__law_good (hr.mono (by decide)) tk_def (da_cons (dv 0) (da_cons (dv 1) (da_cons (dv 6) da_nil)))))) (dss_one (ds_ret de_non)) dss_nil))))
  (dss_one (ds_ret (dty T.f_tuple call_tuple_of tupD (da_cons (dv 6) da_nil))))))⟩
abbrev N_law : List Str := ["_law_script", "_law_k", "_law_box_here", "_law_columns", "_law_checks", "_law_book_here", "_law_cells", "_law_laid", "_law_states_here", "_law_layers", "_law_state", "_law_turn", "_law_new", "_law_kinds_here", "_law_alone", "_law_some", "_law_order", "_law_stop", "_law_there", "_law_here", "_law_cell"]
theorem sc_law : FnScope N_law ["_law_script"] (defScope s_law) := ⟨rfl, rfl, rfl, by decide +kernel, rfl, by decide +kernel, by decide +kernel⟩
noncomputable def m_law : M Val := runF 1 21 (sSeq (sFor (M.bind (fCons (dC (.int 3)) fNil) rng1) (gN 1) (sSeq (sSet 2 (dFn m__law_box [] (aCons (dVar 0) (aCons (dVar 1) aNil))))
  (sSeq (sAsg (gT ((gN 3) :: ((gN 4) :: []))) (dFn m__law_book [] (aCons (dVar 2) (aCons (dLst (fCons (dLst (fCons (dC (.int 2)) fNil)) (fCons (dLst (fCons (dC (.int 2)) (fCons (dC (.int 2)) fNil))) (fCons (dLst (fCons (dC (.int 3)) fNil)) (fCons (dLst (fCons (dC (.int 2)) (fCons (dC (.int 3)) fNil))) (fCons (dLst (fCons (dC (.int 2)) (fCons (dC (.int 2)) (fCons (dC (.int 2)) fNil)))) (fCons (dLst (fCons (dC (.int 1)) (fCons (dC (.int 2)) fNil))) (fCons (dLst (fCons (dC (.int 4)) fNil)) fNil)))))))) (aCons (dC (.int 3)) aNil)))))
  (sSeq (sSet 5 (dMake "Book" m_Book___init__ [] (aCons (dVar 3) (aCons (dVar 4) aNil))))
  (sSeq (sAsg (gT ((gN 6) :: ((gN 7) :: []))) (dFn m__law_store [] (aCons (dVar 2) (aCons (dVar 3) (aCons (dVar 4) aNil)))))
  (sSeq (sPar [8, 9] (vCons (dFn m__law_states [] (aCons (dVar 2) (aCons (dVar 3) (aCons (dVar 4) (aCons (dVar 6) (aCons (dVar 7) aNil)))))) (vCons (dFn m_layers_of [.non] (aCons (dVar 5) aNil)) vNil)))
  (sSeq (sIf (dAsk (dBin eqV (dVar 8) (dLst fNil))) SO.ct sNx)
  (sSeq (sSet 10 (dBin ixV (dVar 8) (dC (.int 0))))
  (sFor (M.bind (fCons (dC (.int 8)) fNil) rng1) (gN 11) (sSeq (sSet 12 (dFn m__law_pick [] (aCons (dVar 2) (aCons (dVar 8) aNil))))
  (sSeq (sSet 13 (dComp (M.bind (fCons (dCall (fn1 lenF) (aCons (dVar 6) aNil)) fNil) rng1) [20] (gN 20) (dAsk (dBin neV (dBin ixV (dVar 10) (dVar 20)) (dBin ixV (dVar 12) (dVar 20)))) (dTup (fCons (dBin ixV (dVar 6) (dVar 20)) (fCons (dBin ixV (dVar 10) (dVar 20)) (fCons (dBin ixV (dVar 12) (dVar 20)) fNil))))))
  (sSeq (sSet 14 (dFn m_layers_of [] (aCons (dVar 5) (aCons (dVar 13) aNil))))
  (sFor (iVal (dTup (fCons (dVar 9) (fCons (dVar 14) fNil)))) (gN 15) (sSeq (sSet 16 (dFn m__law_sorted [] (aCons (dVar 2) (aCons (dVar 6) (aCons (dVar 10) (aCons (dVar 12) (aCons (dVar 15) aNil)))))))
  (sIf (dAsk (dBin isntV (dVar 16) (dC .non))) (sSeq (sSet 17 (dFn m__law_take [] (aCons (dVar 2) (aCons (dBin addV (dCall (fn1 lenF) (aCons (dVar 16) aNil)) (dC (.int 1))) aNil))))
  (sSeq (sSet 18 (dFn m__law_way_right [] (aCons (dVar 4) (aCons (dVar 7) (aCons (dVar 10) (aCons (dVar 12) (aCons (dVar 16) (aCons (dCall (fn1 lenF) (aCons (dVar 16) aNil)) aNil))))))))
  (sSeq (sIf (dAsk (dBin neV (dVar 18) (dVar 12))) (sRet 1 (dC (.bl false))) sNx)
  (sSeq (sSet 19 (dFn m__law_way_right [] (aCons (dVar 4) (aCons (dVar 7) (aCons (dVar 10) (aCons (dVar 12) (aCons (dVar 16) (aCons (dVar 17) aNil))))))))
  (sSeq (sIf (dAsk (dBin isV (dVar 19) (dC .non))) (sRet 1 (dC (.bl false))) sNx)
  (sSet 10 (dIf (dAsk (dBin eqV (dVar 15) (dVar 14))) (dVar 19) (dVar 10)))))))) sNx)))))))))))))))
  (sRet 1 (dC (.bl true))))
theorem ok_law {fd : FuncData} (F : FunD K "law" "law" (defArgs s_law) (defBody s_law) (defScope s_law) [] [] (He.ga K "law") fd) (T : Txt K mg) (C__law_box : Callee P w K mg base "_law_box" 1 ["_law_script", "_law_k"] m__law_box) (C__law_book : Callee P w K mg base "_law_book" 4 ["_law_box_here", "_law_shapes", "_law_checks"] m__law_book) (C_Book___init__ : CalleeM P w K mg base "Book" 6 ["self", "columns", "checks"] m_Book___init__) (C__law_store : Callee P w K mg base "_law_store" 3 ["_law_box_here", "_law_columns", "_law_checks"] m__law_store) (C__law_states : Callee P w K mg base "_law_states" 3 ["_law_box_here", "_law_columns", "_law_checks", "_law_cells", "_law_laid"] m__law_states) (C__law_pick : Callee P w K mg base "_law_pick" 2 ["_law_box_here", "_law_some"] m__law_pick) (C_layers_of : Callee P w K mg base "layers_of" 7 ["book", "kinds"] m_layers_of) (C__law_sorted : Callee P w K mg base "_law_sorted" 3 ["_law_box_here", "_law_cells", "_law_old", "_law_new", "_law_layers"] m__law_sorted) (C__law_take : Callee P w K mg base "_law_take" 1 ["_law_box_here", "_law_many"] m__law_take) (C__law_way_right : Callee P w K mg base "_law_way_right" 2 ["_law_checks", "_law_laid", "_law_old", "_law_new", "_law_order", "_law_stop"] m__law_way_right) (C1_layers_of : CalleeD P w K mg base "layers_of" 7 ["book", "kinds"] [.non] m_layers_of) : DFn P w K mg base 8 (He.ga K "law") fd ["_law_script"] m_law :=
  dfn_ok F sc_law (by decide) fun cdv A outer s H E hr => (dss_cons (ds_for po_def rfl (di_range1 rfl T.f_range (df_cons de_int df_nil)) (dg_name (i := 1) rfl sc_law.nd rfl (Or.inl rfl)) (dss_cons (ds_set (i := 2) (by decide) sc_law.nd rfl (Or.inl rfl) (dcall C__law_box (hr.mono (by decide)) tk_def (da_cons (dv 0) (da_cons (dv 1) da_nil))))
  (dss_cons (ds_asg (dcall C__law_book (hr.mono (by decide)) tk_def (da_cons (dv 2) (da_cons (de_lst (df_cons (de_lst (df_cons de_int df_nil)) (df_cons (de_lst (df_cons de_int (df_cons de_int df_nil))) (df_cons (de_lst (df_cons de_int df_nil)) (df_cons (de_lst (df_cons de_int (df_cons de_int df_nil))) (df_cons (de_lst (df_cons de_int (df_cons de_int (df_cons de_int df_nil)))) (df_cons (de_lst (df_cons de_int (df_cons de_int df_nil))) (df_cons (de_lst (df_cons de_int df_nil)) df_nil)))))))) (da_cons de_int da_nil)))) (dg_tup rfl (dgs_cons (dg_name (i := 3) rfl sc_law.nd rfl (Or.inl rfl)) (dgs_cons (dg_name (i := 4) rfl sc_law.nd rfl (Or.inl rfl)) dgs_nil)) rfl))
  (dss_cons (ds_set (i := 5) (by decide) sc_law.nd rfl (Or.inl rfl) (dmake C_Book___init__ (hr.mono (by decide)) tk_def (da_cons (dv 3) (da_cons (dv 4) da_nil))))
  (dss_cons (ds_asg (dcall C__law_store (hr.mono (by decide)) tk_def (da_cons (dv 2) (da_cons (dv 3) (da_cons (dv 4) da_nil)))) (dg_tup rfl (dgs_cons (dg_name (i := 6) rfl sc_law.nd rfl (Or.inr rfl)) (dgs_cons (dg_name (i := 7) rfl sc_law.nd rfl (Or.inl rfl)) dgs_nil)) rfl))
  (dss_cons (ds_par2 (i := 8 ) (j := 9) (by decide) rfl sc_law.nd rfl rfl (by decide) rfl rfl  (dv_cons (dcall C__law_states (hr.mono (by decide)) tk_def (da_cons (dv 2) (da_cons (dv 3) (da_cons (dv 4) (da_cons (dv 6) (da_cons (dv 7) da_nil)))))) (dv_cons (dcallD C1_layers_of (hr.mono (by decide)) tk_def (da_cons (dv 5) da_nil)) dv_nil)))
  (dss_cons (ds_if (dt_cmp (op_eqD (hu64 hr)) eqD (dv 8) (de_lst df_nil) (nomark _)) (dss_one ds_continue) dss_nil)
  (dss_cons (ds_set (i := 10) (by decide) sc_law.nd rfl (Or.inr rfl) (de_ix (dv 8) de_int (fun _ _ => rfl)))
  (dss_one (ds_for po_def rfl (di_range1 rfl T.f_range (df_cons de_int df_nil)) (dg_name (i := 11) rfl sc_law.nd rfl (Or.inl rfl)) (dss_cons (ds_set (i := 12) (by decide) sc_law.nd rfl (Or.inr rfl) (dcall C__law_pick (hr.mono (by decide)) tk_def (da_cons (dv 2) (da_cons (dv 8) da_nil))))
  (dss_cons (ds_setC (i := 13) (by decide) (own := [("_law_cell", 20)]) rfl sc_law.nd rfl rfl (sw_true rfl rfl rfl (by decide +kernel)) (di_range1 rfl T.f_range (df_cons (dbi T.f_len call_len lenD (da_cons (dv 6) da_nil)) df_nil)) (blkOk_by (N := N_law) (sc := defScope s_law) (by decide +kernel)) (fun _ _ _ _ _ => (dg_name (i := 20) rfl sc_law.nd rfl (Or.inl rfl))) (fun _ _ _ _ _ => (dts_one (dt_cmp (op_neD (hu64 hr)) neD (de_ix (dv 10) (dv 20) (fun _ _ => rfl)) (de_ix (dv 12) (dv 20) (fun _ _ => rfl)) (nomark _)))) (fun _ _ _ _ _ => (de_tup (df_cons (de_ix (dv 6) (dv 20) (fun _ _ => rfl)) (df_cons (de_ix (dv 10) (dv 20) (fun _ _ => rfl)) (df_cons (de_ix (dv 12) (dv 20) (fun _ _ => rfl)) df_nil))))))
  (dss_cons (ds_set (i := 14) (by decide) sc_law.nd rfl (Or.inl rfl) (dcall C_layers_of (hr.mono (by decide)) tk_def (da_cons (dv 5) (da_cons (dv 13) da_nil))))
  (dss_one (ds_for po_def rfl (di_val (de_tup (df_cons (dv 9) (df_cons (dv 14) df_nil)))) (dg_name (i := 15) rfl sc_law.nd rfl (Or.inl rfl)) (dss_cons (ds_set (i := 16) (by decide) sc_law.nd rfl (Or.inl rfl) (dcall C__law_sorted (hr.mono (by decide)) tk_def (da_cons (dv 2) (da_cons (dv 6) (da_cons (dv 10) (da_cons (dv 12) (da_cons (dv 15) da_nil)))))))
  (dss_one (ds_if (dt_cmp op_notN isntD (dv 16) de_non (nomark _)) (dss_cons (ds_set (i := 17) (by decide) sc_law.nd rfl (Or.inl rfl) (dcall C__law_take (hr.mono (by decide)) tk_def (da_cons (dv 2) (da_cons (de_op op_addD addD (dbi T.f_len call_len lenD (da_cons (dv 16) da_nil)) de_int) da_nil))))
  (dss_cons (ds_set (i := 18) (by decide) sc_law.nd rfl (Or.inl rfl) (dcall C__law_way_right (hr.mono (by decide)) tk_def (da_cons (dv 4) (da_cons (dv 7) (da_cons (dv 10) (da_cons (dv 12) (da_cons (dv 16) (da_cons (dbi T.f_len call_len lenD (da_cons (dv 16) da_nil)) da_nil))))))))
  (dss_cons (ds_if (dt_cmp (op_neD (hu64 hr)) neD (dv 18) (dv 12) (nomark _)) (dss_one (ds_ret de_bl)) dss_nil)
  (dss_cons (ds_set (i := 19) (by decide) sc_law.nd rfl (Or.inl rfl) (dcall C__law_way_right (hr.mono (by decide)) tk_def (da_cons (dv 4) (da_cons (dv 7) (da_cons (dv 10) (da_cons (dv 12) (da_cons (dv 16) (da_cons (dv 17) da_nil))))))))
  (dss_cons (ds_if (dt_cmp op_isN isD (dv 19) de_non (nomark _)) (dss_one (ds_ret de_bl)) dss_nil)
  (dss_one (ds_set (i := 10) (by decide) sc_law.nd rfl (Or.inr rfl) (de_if (dt_cmp (op_eqD (hu64 hr)) eqD (dv 15) (dv 14) (nomark _)) (dv 19) (dv 10))))))))) dss_nil))))))))))))))))))
  (dss_one (ds_ret de_bl)))
end
end My
set_option maxHeartbeats 4000000
/-! P0: the plain law, first tools: straight lines by simp. -/
namespace DL
theorem bind_ok {α β : Type} {f : M α} {g : α → M β} {e e' : Env} {a : α} (h : f e = .ok a e') : M.bind f g e = g a e' := by unfold M.bind; rw [h]
theorem sBind_ok {α : Type} {f : M α} {g : α → SM} {e e' : Env} {a : α} (h : f e = .ok a e') : sBind f g e = g a e' := by unfold sBind; rw [h]
end DL
namespace My
open PySem PySem.Spec PyProof.Rows L2 DL
theorem v_is_integer_int (i : Int) : m_is_integer [.sh (.int i)] = .ok (.d (.bl true)) [.sh (.int i)] := by
  rfl
/-- the box's draw -/
def tkR (b : Int × Int) (n : Int) : Int := if b.1 > 0 then b.1 % n else ((b.2 * 40692 + 83) % 2147483399 * 2147483629 + (((b.2 * 40692 + 83) % 2147483399 * 39373 + 37) % 2147483587 + 1)) / 8167 % n
def tkB (b : Int × Int) (n : Int) : Int × Int := if b.1 > 0 then (b.1 / n, b.2) else (b.1, ((b.2 * 40692 + 83) % 2147483399 * 39373 + 37) % 2147483587 + 1)
def boxO (b : Int × Int) : O := .lst [.int b.1, .int b.2]
theorem v_take (b : Int × Int) (n : Int) (h : 0 < n) (h2 : n < 1073741824) : m__law_take [.ow (boxO b), .sh (.int n)] = .ok (.d (.int (tkR b n))) [.ow (boxO (tkB b n)), .sh (.int n)] := by
  obtain ⟨g, c⟩ := b
  by_cases hg : g > 0
  · simp [m__law_take, runF, sSeq, sIf, sSet, setV, sSub, sNx, storeV, sRet, retV, sBind, dAsk, askB, dBin, M.bind, dCall, aCons, aNil, dVar, argV, frz, fixV, M.ret, dC, vwD, vwO, SV.o, O.d, intV, ixV, isSeq, itsD, atI, fn1, intF, boxO, tkR, tkB, hg, h, h2, ixN]
  · simp [m__law_take, runF, sSeq, sIf, sSet, setV, sSub, sNx, storeV, sRet, retV, sBind, dAsk, askB, dBin, M.bind, dCall, aCons, aNil, dVar, argV, frz, fixV, M.ret, dC, vwD, vwO, SV.o, O.d, intV, ixV, isSeq, itsD, atI, fn1, intF, boxO, tkR, tkB, hg, h, h2, ixN, addV]
end My

set_option maxHeartbeats 4000000
/-! P1: the plain law: loops. -/
namespace DL
open PySem PySem.Spec PyProof.Rows L2
/-- a comprehension that changes nothing -/
theorem comp_pure {α : Type} {enc : α → D} {vs : List Nat} {g : TF} {t : M Bool} {el : M D} {p : α → Bool} {f : α → D} {e : Env} : ∀ (xs : List α) (acc : List D)
    (h : ∀ x ∈ xs, ∃ e1 e2, g (enc x) e = some e1 ∧ t e1 = .ok (p x) e2 ∧ (p x = false → wipeE e2 vs = e) ∧ (p x = true → ∃ e3, el e2 = .ok (f x) e3 ∧ wipeE e3 vs = e))
    (hl : acc.length + (xs.filter p).length ≤ sizeLine), compLoop vs g t el (xs.map enc) acc e = .ok (acc ++ (xs.filter p).map f) e
  | [], acc, _, _ => by simp [compLoop]
  | x :: xs, acc, h, hl => by
    obtain ⟨e1, e2, h1, h2, h3, h4⟩ := h x (by simp)
    have ih := fun acc => comp_pure xs acc fun y hy => h y (by simp [hy])
    rw [List.map_cons]
    unfold compLoop
    rw [h1]
    simp only [h2]
    cases q : p x with
    | false =>
      simp only [h3 q]
      rw [List.filter_cons, q] at hl ⊢
      exact ih acc (by simpa using hl)
    | true =>
      obtain ⟨e3, h5, h6⟩ := h4 q
      rw [List.filter_cons, q, if_pos rfl, List.length_cons] at hl
      rw [List.filter_cons, q, if_pos rfl]
      simp only [h5, h6]
      rw [if_pos (by omega), ih _ (by simp; omega)]
      simp
/-- a comprehension with a state in what it reads -/
def cmapS {α σ : Type} (F : σ → α → Option D × σ) : σ → List α → List D × σ
  | s, [] => ([], s)
  | s, x :: xs => match F s x with
    | (some d, s') => (d :: (cmapS F s' xs).1, (cmapS F s' xs).2)
    | (none, s') => cmapS F s' xs
theorem forLoop_nx {g : TF} {body : SM} {d : D} {ds : List D} {e e1 e2 : Env} (h1 : g d e = some e1) (h2 : body e1 = .nx e2 ∨ body e1 = .ct e2) : forLoop g body (d :: ds) e = forLoop g body ds e2 := by
  rw [forLoop, h1]
  rcases h2 with h2 | h2 <;> simp only [h2]
theorem forLoop_bk {g : TF} {body : SM} {d : D} {ds : List D} {e e1 e2 : Env} (h1 : g d e = some e1) (h2 : body e1 = .bk e2) : forLoop g body (d :: ds) e = .nx e2 := by
  rw [forLoop, h1]
  simp only [h2]
theorem forLoop_rt {g : TF} {body : SM} {d : D} {ds : List D} {e e1 e2 : Env} {v : Val} (h1 : g d e = some e1) (h2 : body e1 = .rt v e2) : forLoop g body (d :: ds) e = .rt v e2 := by
  rw [forLoop, h1]
  simp only [h2]
/-- a for that may break -/
def foldB {α σ : Type} (F : σ → α → Bool × σ) : σ → List α → σ
  | s, [] => s
  | s, x :: xs => match F s x with
    | (true, s') => s'
    | (false, s') => foldB F s' xs
end DL

set_option maxHeartbeats 4000000
/-! P2: the plain law: the box. -/
namespace DL
open PySem PySem.Spec PyProof.Rows L2
end DL
namespace My
open PySem PySem.Spec PyProof.Rows L2 DL
theorem tkR_ge (b : Int × Int) {n : Int} (h : 0 < n) : 0 ≤ tkR b n := by
  unfold tkR
  split <;> exact Int.emod_nonneg _ (by omega)
theorem tkR_lt (b : Int × Int) {n : Int} (h : 0 < n) : tkR b n < n := by
  unfold tkR
  split <;> exact Int.emod_lt_of_pos _ h
theorem atI_of {xs : List D} {i : Int} (h0 : 0 ≤ i) (h1 : i < xs.length) : atI xs i = xs[i.toNat]? := by
  unfold atI ixN
  rw [if_pos h0, if_pos h1]
  rfl
theorem v_pick (b : Int × Int) (xs : List D) {d : D} (h : 0 < xs.length) (h2 : xs.length < 1073741824) (hd : xs[(tkR b xs.length).toNat]? = some d) :
    m__law_pick [.ow (boxO b), .sh (.lst xs)] = .ok (.d d) [.ow (boxO (tkB b xs.length)), .sh (.lst xs)] := by
  have ht := v_take b xs.length (by omega) (by omega)
  have h3 := tkR_ge b (n := xs.length) (by omega)
  have h4 := tkR_lt b (n := xs.length) (by omega)
  have h5 := (atI_of h3 h4).trans hd
  clear hd
  generalize boxO b = O1 at ht ⊢
  generalize boxO (tkB b xs.length) = O2 at ht ⊢
  simp [m__law_pick, runF, sRet, retV, sBind, dBin, M.bind, dCall, dFn, callV, nodupAt, argS, backS, posOf, isAt, isOw, aCons, aNil, dVar, argV, frz, fixV, M.ret, vwD, SV.o, O.d, ixV, isSeq, itsD, fn1, lenF, ht, h5, List.findIdx?_cons]
end My

set_option maxHeartbeats 4000000
/-! P3: the plain law: the box made. -/
namespace My
open PySem PySem.Spec PyProof.Rows L2 DL
theorem atI_ints {ns : List Int} {i : Int} (h0 : 0 ≤ i) (h1 : i < ns.length) : ∃ m, atI (ns.map D.int) i = some (.int m) := by
  rw [atI_of h0 (by simpa using h1), List.getElem?_map, List.getElem?_eq_getElem (by omega)]
  exact ⟨_, rfl⟩
def boxTail : SM := sSeq (sSet 3 (dIf (dAsk (dBin geV (dVar 2) (dBin powV (dC (.int 10)) (dC (.int 18))))) (dVar 2) (dC (.int 0))))
  (sRet 2 (dLst (fCons (dVar 3) (fCons (dBin addV (dBin modV (dCall (fn1 intF) (aCons (dBin addV (dBin mulV (dBin modV (dCall (fn1 intF) (aCons (dVar 2) aNil)) (dC (.int 2147483587))) (dC (.int 69763))) (dBin mulV (dC (.int 619)) (dVar 1))) aNil)) (dC (.int 2147483587))) (dC (.int 1))) fNil))))
theorem v_boxTail (x : SV) (k c : Int) : ∃ b z w, boxTail [x, .sh (.int k), .sh (.int c), .no] = .rt (.new (boxO b)) [x, .sh (.int k), z, w] := by
  by_cases hg : (1000000000000000000 : Int) ≤ c
  · simp [boxTail, hg, runF, sSeq, sIf, sSet, setV, sNx, sRet, retV, sBind, dAsk, askB, dBin, dIf, M.bind, dCall, aCons, aNil, dVar, argV, frz, fixV, M.ret, dC, vwD, SV.o, O.d, intV, ixV, isSeq, itsD, fn1, intF, absF, lenF, dLst, fCons, fNil, addV, sizeLine]
    exact ⟨_, _, rfl⟩
  · simp [boxTail, hg, runF, sSeq, sIf, sSet, setV, sNx, sRet, retV, sBind, dAsk, askB, dBin, dIf, M.bind, dCall, aCons, aNil, dVar, argV, frz, fixV, M.ret, dC, vwD, SV.o, O.d, intV, ixV, isSeq, itsD, fn1, intF, absF, lenF, dLst, fCons, fNil, addV, sizeLine]
    exact ⟨_, _, rfl⟩
theorem v_box (ns : List Int) (k : Int) (h0 : 0 ≤ k) (h1 : k < 1000) : ∃ b, m__law_box [.sh (.rol (ns.map .int)), .sh (.int k)] = .ok (.new (boxO b)) [.sh (.rol (ns.map .int)), .sh (.int k)] := by
  have key : ∀ (x : SV) (B : SM) (c : Int), sSeq (sSet 2 (dBin addV (dBin mulV (dC (.int 5807)) (dVar 1)) (dC (.int 619)))) B [x, .sh (.int k), .no, .no] = .nx [x, .sh (.int k), .sh (.int c), .no] →
      ∃ b, runF 2 4 (sSeq (sSet 2 (dBin addV (dBin mulV (dC (.int 5807)) (dVar 1)) (dC (.int 619)))) (sSeq B boxTail)) [x, .sh (.int k)] = .ok (.new (boxO b)) [x, .sh (.int k)] := fun x B c h => by
    obtain ⟨b, z, w, ht⟩ := v_boxTail x k c
    refine ⟨b, ?_⟩
    unfold sSeq at h
    simp [sSet, sBind, dBin, M.bind, dC, dVar, fixV, intV, vwD, setV, addV] at h
    simp [runF, sSeq, sSet, sBind, dBin, M.bind, dC, dVar, fixV, intV, vwD, setV, addV, h, ht]
  unfold m__law_box
  by_cases hk : k < ns.length
  · obtain ⟨m, hm⟩ := atI_ints h0 hk
    generalize hx : ns.map D.int = xs at hm
    have hl : xs.length = ns.length := by rw [← hx, List.length_map]
    refine key _ _ (if m < 0 then -m else m) ?_
    simp [hm, hl, hk, runF, sSeq, sIf, sSet, setV, sNx, sRet, retV, sBind, dAsk, askB, dBin, dIf, M.bind, dCall, aCons, aNil, dVar, argV, frz, fixV, M.ret, dC, vwD, SV.o, O.d, intV, ixV, isSeq, itsD, fn1, intF, absF, lenF, dLst, fCons, fNil, addV, sizeLine]
  · by_cases hn : ns.length > 0
    · obtain ⟨m, hm⟩ := atI_ints (ns := ns) (i := k % ns.length) (Int.emod_nonneg _ (by omega)) (Int.emod_lt_of_pos _ (by omega))
      generalize hx : ns.map D.int = xs at hm
      have hl : xs.length = ns.length := by rw [← hx, List.length_map]
      refine key _ _ (5807 * k + 619 + (if m < 0 then -m else m) % 2147483587 * 50527) ?_
      simp [hm, hl, hk, hn, runF, sSeq, sIf, sSet, setV, sNx, sRet, retV, sBind, dAsk, askB, dBin, dIf, M.bind, dCall, aCons, aNil, dVar, argV, frz, fixV, M.ret, dC, vwD, SV.o, O.d, intV, ixV, isSeq, itsD, fn1, intF, absF, lenF, dLst, fCons, fNil, addV, sizeLine]
    · have : ns = [] := by cases ns with
        | nil => rfl
        | cons a t => simp at hn
      subst this
      refine key _ _ (5807 * k + 619) ?_
      simp [h0, hk, show ¬ k < 0 by omega, runF, sSeq, sIf, sSet, setV, sNx, sRet, retV, sBind, dAsk, askB, dBin, dIf, M.bind, dCall, aCons, aNil, dVar, argV, frz, fixV, M.ret, dC, vwD, SV.o, O.d, intV, ixV, isSeq, itsD, fn1, intF, absF, lenF, dLst, fCons, fNil, addV, sizeLine]
end My

set_option maxHeartbeats 4000000
/-! P4: the plain law: lots, sets, kinds. -/
namespace DL
theorem comp_map {α : Type} {enc : α → D} {vs : List Nat} {g : TF} {t : M Bool} {el : M D} {f : α → D} {e : Env} (xs : List α)
    (h : ∀ x ∈ xs, ∃ e1 e2 e3, g (enc x) e = some e1 ∧ t e1 = .ok true e2 ∧ el e2 = .ok (f x) e3 ∧ wipeE e3 vs = e) (hl : xs.length ≤ PySem.sizeLine) : compLoop vs g t el (xs.map enc) [] e = .ok (xs.map f) e := by
  have h2 := comp_pure (enc := enc) (vs := vs) (g := g) (t := t) (el := el) (p := fun _ => true) (f := f) (e := e) xs [] (fun x hx => by
    obtain ⟨e1, e2, e3, h1, h2, h3, h4⟩ := h x hx
    exact ⟨e1, e2, h1, h2, (fun z => by cases z), fun _ => ⟨e3, h3, h4⟩⟩)
  rw [List.filter_eq_self.mpr (fun _ _ => rfl), List.nil_append] at h2
  exact h2 (by simpa using hl)
end DL
namespace My
open PySem PySem.Spec PyProof.Rows L2 DL
/-- a tuple of numbers -/
abbrev eT (xs : List Int) : D := .tup (xs.map .int)
def stepL (f : List (List Int)) (p : Int) : List (List Int) := f ++ f.map (· ++ [p])
def lotsB : SM := sSet 1 (dBin addV (dVar 1) (dComp (iVal (dVar 1)) [3] (gN 3) tT (dBin addV (dVar 3) (dTup (fCons (dVar 2) fNil)))))
theorem cut_tail (xs : List D) : DL.cutD xs (some 1) none = xs.tail := by
  cases xs with
  | nil => rfl
  | cons x t => simp [DL.cutD, HT.sIx]
end My

set_option maxHeartbeats 4000000
/-! P5: the plain law: equality of data. -/
namespace DL
open PySem PySem.Spec PyProof.Rows L2
theorem eqvD_int (i j : Int) : eqvD (.int i) (.int j) = decide (i = j) := by
  unfold eqvD pd
  rw [PyData.eqv]
  rfl
theorem eqvAll_ints : ∀ a b : List Int, PyData.eqvAll (pdL (a.map .int)) (pdL (b.map .int)) = decide (a = b)
  | [], [] => by simp [pdL, PyData.eqvAll]
  | [], b :: bs => by simp [pdL, PyData.eqvAll]
  | a :: as, [] => by simp [pdL, PyData.eqvAll]
  | a :: as, b :: bs => by
    have := eqvAll_ints as bs
    simp only [List.map_cons, pdL, PyData.eqvAll, this]
    rw [show PyData.eqv (pd (.int a)) (pd (.int b)) = decide (a = b) from eqvD_int a b]
    by_cases h : a = b <;> by_cases h2 : as = bs <;> simp [h, h2]
theorem eqvD_tup (a b : List Int) : eqvD (.tup (a.map .int)) (.tup (b.map .int)) = decide (a = b) := by
  unfold eqvD pd
  rw [PyData.eqv]
  exact eqvAll_ints a b
theorem okN_tupI (n : Nat) (a : List Int) : okN (n + 1) (.tup (a.map .int)) = true := by
  rw [okN_tup, List.all_map, List.all_eq_true]
  intro x _
  exact okN_int
theorem hasD_int (i : Int) (l : List Int) : hasD (.int i) (l.map .int) = l.contains i := by
  unfold hasD
  induction l with
  | nil => rfl
  | cons x l ih => rw [List.map_cons, List.any_cons, ih, eqvD_int, List.contains_cons]; congr 1; rw [Bool.eq_iff_iff]; simp; exact eq_comm
theorem hasD_tup (a : List Int) (l : List (List Int)) : hasD (.tup (a.map .int)) (l.map fun b => .tup (b.map .int)) = l.contains a := by
  unfold hasD
  induction l with
  | nil => rfl
  | cons x l ih => rw [List.map_cons, List.any_cons, ih, eqvD_tup, List.contains_cons]; congr 1; rw [Bool.eq_iff_iff]; simp; exact eq_comm
end DL

set_option maxHeartbeats 4000000
/-! P6a: the plain law: sets, places, unlikes. -/
namespace My
open PySem PySem.Spec PyProof.Rows L2 DL
def rgI (n : Nat) : List Int := (List.range n).map fun (i : Nat) => (i : Int)
theorem rangeD_rgI (n : Nat) : rangeD 0 n = (rgI n).map D.int := by
  unfold rangeD rgI
  rw [List.map_map]
  exact List.map_congr_left fun i _ => by simp
theorem mem_rgI {n : Nat} {i : Int} (h : i ∈ rgI n) : 0 ≤ i ∧ i < n := by
  obtain ⟨k, hk, rfl⟩ := List.mem_map.mp h
  have := List.mem_range.mp hk
  omega
def atZ (xs : List Int) (i : Int) : Int := xs.getD i.toNat 0
theorem atI_row {xs : List Int} {i : Int} (h : 0 ≤ i ∧ i < xs.length) : atI (xs.map D.int) i = some (.int (atZ xs i)) := by
  rw [atI_of h.1 (by simpa using h.2), List.getElem?_map, List.getElem?_eq_getElem (by omega)]
  unfold atZ
  rw [List.getD_eq_getElem?_getD, List.getElem?_eq_getElem (by omega)]
  rfl
theorem seq_tup (xs : List D) : isSeq (.tup xs) = true := rfl
theorem its_tup (xs : List D) : itsD (.tup xs) = xs := rfl
theorem its_lst (xs : List D) : itsD (.lst xs) = xs := rfl
def setF (one other lot : List Int) : List Int := (rgI one.length).map fun i => if lot.contains i = true then atZ other i else atZ one i
theorem in62_len {n : Nat} (h : n ≤ 1000) : in62 (n : Int) = true := decide_eq_true (by omega)
def setE : M Val := dIf (dAsk (dBin inV2 (dVar 3) (dVar 2))) (dBin ixV (dVar 1) (dVar 3)) (dBin ixV (dVar 0) (dVar 3))
theorem setE_eq (one other lot : List Int) (l : D) (i : Int) (hb : 0 ≤ i ∧ i < one.length) (hl : isSeq l = true) (hi : itsD l = lot.map .int) (hk : okN 60 l = true) (h : other.length = one.length) :
    setE [.sh (eT one), .sh (eT other), .sh l, .sh (.int i)] = .ok (.d (.int (if lot.contains i = true then atZ other i else atZ one i))) [.sh (eT one), .sh (eT other), .sh l, .sh (.int i)] := by
  have a1 := atI_row hb
  have a2 := atI_row (xs := other) (i := i) (by rw [h]; exact hb)
  have a3 := hasD_int i lot
  have hk2 : okIn (.int i) l = true := by unfold okIn; rw [okN_int, hk, hl]; rfl
  have e0 : (dAsk (dBin inV2 (dVar 3) (dVar 2))) [.sh (eT one), .sh (eT other), .sh l, .sh (.int i)] = .ok (lot.contains i) [.sh (eT one), .sh (eT other), .sh l, .sh (.int i)] := by
    simp only [dAsk, dBin, M.bind, dVar, fixV, List.getElem?_cons_succ, List.getElem?_cons_zero, inV2, vwO, boolV, vwD, hk2, if_true, askB, hi, a3]
  unfold setE dIf
  rw [bind_ok e0]
  by_cases hq : lot.contains i = true
  · rw [if_pos hq, if_pos hq]
    simp only [dBin, M.bind, dVar, fixV, List.getElem?_cons_succ, List.getElem?_cons_zero, ixV, vwD, seq_tup, its_tup, eT, a2]
  · rw [if_neg hq, if_neg hq]
    simp only [dBin, M.bind, dVar, fixV, List.getElem?_cons_succ, List.getElem?_cons_zero, ixV, vwD, seq_tup, its_tup, eT, a1]
end My

set_option maxHeartbeats 4000000
/-! P6: the plain law: sets. -/
namespace DL
theorem runF_rt {np N : Nat} {body : SM} {args e : Env} {v : Val} (h : args.length = np) (hb : body (args ++ List.replicate (N - np) .no) = .rt v e) : runF np N body args = .ok v (e.take np) := by
  unfold runF
  rw [if_pos h, hb]
end DL
namespace My
open PySem PySem.Spec PyProof.Rows L2 DL
theorem len_line {n : Nat} (h : n ≤ 1000) : n ≤ sizeLine := Nat.le_trans h (by decide)
theorem rgI_length (n : Nat) : (rgI n).length = n := by unfold rgI; rw [List.length_map, List.length_range]
theorem set_comp (one other lot : List Int) (l : D) (hl : isSeq l = true) (hi : itsD l = lot.map .int) (hk : okN 60 l = true) (h : other.length = one.length) (h2 : one.length ≤ 1000) :
    compLoop [3] (gN 3) tT (M.bind setE frz) ((rgI one.length).map .int) [] [.sh (eT one), .sh (eT other), .sh l, .no] = .ok ((rgI one.length).map fun i => .int (if lot.contains i = true then atZ other i else atZ one i)) [.sh (eT one), .sh (eT other), .sh l, .no] :=
  comp_map (rgI one.length) (fun i hi2 => ⟨_, _, _, rfl, rfl, bind_ok (setE_eq one other lot l i (mem_rgI hi2) hl hi hk h), rfl⟩) (by rw [rgI_length]; exact len_line h2)
theorem v_set (one other lot : List Int) (l : D) (hl : isSeq l = true) (hi : itsD l = lot.map .int) (hk : okN 60 l = true) (h : other.length = one.length) (h2 : one.length ≤ 1000) :
    m__law_set [.sh (eT one), .sh (eT other), .sh l] = .ok (.d (eT (setF one other lot))) [.sh (eT one), .sh (eT other), .sh l] := by
  have hc := set_comp one other lot l hl hi hk h h2
  have hr := in62_len h2
  have hw : M.bind (fCons (dCall (fn1 lenF) (aCons (dVar 0) aNil)) fNil) rng1 [.sh (eT one), .sh (eT other), .sh l, .no] = .ok ((rgI one.length).map .int, none) [.sh (eT one), .sh (eT other), .sh l, .no] := by
    have h0 : (fCons (dCall (fn1 lenF) (aCons (dVar 0) aNil)) fNil) [.sh (eT one), .sh (eT other), .sh l, .no] = .ok [.int ((one.map D.int).length : Nat)] [.sh (eT one), .sh (eT other), .sh l, .no] := rfl
    rw [bind_ok h0, List.length_map]
    unfold rng1
    simp only [hr, if_true, ← rangeD_rgI, Int.toNat_natCast]
  have hd : dComp (M.bind (fCons (dCall (fn1 lenF) (aCons (dVar 0) aNil)) fNil) rng1) [3] (gN 3) tT setE [.sh (eT one), .sh (eT other), .sh l, .no] = .ok (.new (.lst ((setF one other lot).map .int))) [.sh (eT one), .sh (eT other), .sh l, .no] := by
    unfold dComp
    rw [bind_ok hw]
    have hc' : compLoop [3] (gN 3) tT (M.bind setE frz) ((rgI one.length).map .int) [] (wipeE (lockS none [.sh (eT one), .sh (eT other), .sh l, .no]) [3]) = _ := hc
    simp only [hc']
    unfold setF
    rw [List.map_map]
    rfl
  have ha : (dCall tupC (aCons (dComp (M.bind (fCons (dCall (fn1 lenF) (aCons (dVar 0) aNil)) fNil) rng1) [3] (gN 3) tT setE) aNil)) [.sh (eT one), .sh (eT other), .sh l, .no] = .ok (.d (eT (setF one other lot))) [.sh (eT one), .sh (eT other), .sh l, .no] := by
    have ha1 : (aCons (dComp (M.bind (fCons (dCall (fn1 lenF) (aCons (dVar 0) aNil)) fNil) rng1) [3] (gN 3) tT setE) aNil) [.sh (eT one), .sh (eT other), .sh l, .no] = .ok [.d (.lst ((setF one other lot).map .int))] [.sh (eT one), .sh (eT other), .sh l, .no] := (bind_ok hd).trans rfl
    exact (bind_ok ha1).trans rfl
  have hs : (sRet 3 (dCall tupC (aCons (dComp (M.bind (fCons (dCall (fn1 lenF) (aCons (dVar 0) aNil)) fNil) rng1) [3] (gN 3) tT setE) aNil))) [.sh (eT one), .sh (eT other), .sh l, .no] = .rt (.d (eT (setF one other lot))) [.sh (eT one), .sh (eT other), .sh l, .no] := by
    unfold sRet
    rw [sBind_ok ha]
    rfl
  have hx := runF_rt (np := 3) (N := 4) (args := [.sh (eT one), .sh (eT other), .sh l]) rfl hs
  exact hx
end My

set_option maxHeartbeats 4000000
/-! W0: what holds behind a meaning: expressions. -/
namespace DL
open PySem PySem.Spec PyProof.Rows L2
abbrev XQ := Exn → Env → Prop
def NX : XQ := fun _ _ => False
@[irreducible] def wpE {α : Type} (f : M α) (e : Env) (Q : α → Env → Prop) (X : XQ) : Prop := match f e with
  | .ok a e' => Q a e'
  | .er x e' => X x e'
  | .bad => False
section
variable {α β : Type} {e : Env} {X : XQ}
theorem w_run {f : M α} {e' : Env} {Q : α → Env → Prop} {a : α} (h : f e = .ok a e') (k : Q a e') : wpE f e Q X := by unfold wpE; rw [h]; exact k
theorem w_mono {f : M α} {Q P : α → Env → Prop} {Y : XQ} (h : wpE f e P Y) (k : ∀ a e', P a e' → Q a e') (kx : ∀ x e', Y x e' → X x e') : wpE f e Q X := by
  unfold wpE at h ⊢
  cases q : f e with
  | ok a e' => rw [q] at h; exact k a e' h
  | er x e' => rw [q] at h; exact kx x e' h
  | bad => rw [q] at h; exact h
theorem w_bind {f : M α} {g : α → M β} {Q : β → Env → Prop} (h : wpE f e (fun a e' => wpE (g a) e' Q X) X) : wpE (M.bind f g) e Q X := by
  unfold wpE at h
  cases q : f e with
  | ok a e' => rw [q] at h; unfold wpE; rw [bind_ok q]; exact h
  | er x e' => rw [q] at h; unfold wpE M.bind; rw [q]; exact h
  | bad => rw [q] at h; exact h.elim
theorem w_ret {a : α} {Q : α → Env → Prop} (k : Q a e) : wpE (M.ret a) e Q X := w_run rfl k
/-- what a meaning hands back, as an equation -/
theorem w_eq {f : M α} {Q : α → Env → Prop} (h : wpE f e Q NX) : ∃ a e', f e = .ok a e' ∧ Q a e' := by
  unfold wpE at h
  cases q : f e with
  | ok a e' => rw [q] at h; exact ⟨a, e', rfl, h⟩
  | er x e' => rw [q] at h; exact h.elim
  | bad => rw [q] at h; exact h.elim
variable {Q : Val → Env → Prop}
theorem w_var {i : Nat} {v : Val} (h : dVar i e = .ok v e) (k : Q v e) : wpE (dVar i) e Q X := w_run h k
theorem w_c {x : D} (k : Q (.d x) e) : wpE (dC x) e Q X := w_run rfl k
theorem w_bin {op : Val → Val → M Val} {fa fb : M Val} (h : wpE fa e (fun v e1 => wpE fb e1 (fun u e2 => wpE (fixV v) e2 (fun v' e3 => wpE (op v' u) e3 Q X) X) X) X) : wpE (dBin op fa fb) e Q X := w_bind (w_mono h (fun a e' h => w_bind (w_mono h (fun a e' h => w_bind h) fun _ _ h => h)) fun _ _ h => h)
theorem w_un {op : Val → M Val} {fa : M Val} (h : wpE fa e (fun v e1 => wpE (op v) e1 Q X) X) : wpE (dUn op fa) e Q X := w_bind h
theorem w_fix {v v' : Val} (h : fixV v e = .ok v' e) (k : Q v' e) : wpE (fixV v) e Q X := w_run h k
theorem w_ask {fa : M Val} {Q : Bool → Env → Prop} (h : wpE fa e (fun v e1 => wpE (askB v) e1 Q X) X) : wpE (dAsk fa) e Q X := w_bind h
theorem w_askB {b : Bool} {Q : Bool → Env → Prop} (k : Q b e) : wpE (askB (.d (.bl b))) e Q X := w_run rfl k
theorem w_and {fa fb : M Val} (h : wpE fa e (fun v e1 => wpE (andV fb v) e1 Q X) X) : wpE (dAnd fa fb) e Q X := w_bind h
theorem w_tand {fa fb : M Bool} {Q : Bool → Env → Prop} (h : wpE fa e (fun b e1 => (b = true → wpE fb e1 Q X) ∧ (b = false → Q false e1)) X) : wpE (tAndB fa fb) e Q X := by
  refine w_bind (w_mono h (fun b e1 k => ?_) fun _ _ h => h)
  cases b with
  | true => exact k.1 rfl
  | false => exact w_run rfl (k.2 rfl)
theorem w_tor {fa fb : M Bool} {Q : Bool → Env → Prop} (h : wpE fa e (fun b e1 => (b = true → Q true e1) ∧ (b = false → wpE fb e1 Q X)) X) : wpE (tOrB fa fb) e Q X := by
  refine w_bind (w_mono h (fun b e1 k => ?_) fun _ _ h => h)
  cases b with
  | true => exact w_run rfl (k.1 rfl)
  | false => exact k.2 rfl
theorem w_tnot {fa : M Bool} {Q : Bool → Env → Prop} (h : wpE fa e (fun b e1 => Q (!b) e1) X) : wpE (tNotB fa) e Q X := w_bind (w_mono h (fun _ _ k => w_run rfl k) fun _ _ h => h)
theorem w_if {fc : M Bool} {fa fb : M Val} (h : wpE fc e (fun b e1 => (b = true → wpE fa e1 Q X) ∧ (b = false → wpE fb e1 Q X)) X) : wpE (dIf fc fa fb) e Q X := by
  refine w_bind (w_mono h (fun b e1 k => ?_) fun _ _ h => h)
  cases b with
  | true => exact k.1 rfl
  | false => exact k.2 rfl
theorem w_tT {Q : Bool → Env → Prop} (k : Q true e) : wpE tT e Q X := w_run rfl k
/-! displays, arguments -/
theorem w_fnil {Q : List D → Env → Prop} (k : Q [] e) : wpE fNil e Q X := w_run rfl k
theorem w_fcons {f : M Val} {fs : M (List D)} {Q : List D → Env → Prop} (h : wpE f e (fun v e1 => wpE (frz v) e1 (fun x e2 => wpE fs e2 (fun xs e3 => Q (x :: xs) e3) X) X) X) : wpE (fCons f fs) e Q X :=
  w_bind (w_mono h (fun a e' h => w_bind (w_mono h (fun a e' h => w_bind (w_mono h (fun _ _ k => w_run rfl k) fun _ _ h => h)) fun _ _ h => h)) fun _ _ h => h)
def tupV (xs : List D) : M Val := fun e => if xs.length ≤ sizeLine then .ok (.d (.tup xs)) e else .bad
def lstV (xs : List D) : M Val := fun e => if xs.length ≤ sizeLine then .ok (.new (.lst xs)) e else .bad
theorem w_tup {fs : M (List D)} (h : wpE fs e (fun xs e1 => wpE (tupV xs) e1 Q X) X) : wpE (dTup fs) e Q X := w_bind h
theorem w_lst {fs : M (List D)} (h : wpE fs e (fun xs e1 => wpE (lstV xs) e1 Q X) X) : wpE (dLst fs) e Q X := w_bind h
theorem w_tupV {xs : List D} (h : xs.length ≤ sizeLine) (k : Q (.d (.tup xs)) e) : wpE (tupV xs) e Q X := w_run (if_pos h) k
theorem w_lstV {xs : List D} (h : xs.length ≤ sizeLine) (k : Q (.new (.lst xs)) e) : wpE (lstV xs) e Q X := w_run (if_pos h) k
theorem w_anil {Q : List Val → Env → Prop} (k : Q [] e) : wpE aNil e Q X := w_run rfl k
theorem w_acons {f : M Val} {fs : M (List Val)} {Q : List Val → Env → Prop} (h : wpE f e (fun v e1 => wpE (argV v) e1 (fun x e2 => wpE fs e2 (fun xs e3 => wpE (fixV x) e3 (fun x e4 => Q (x :: xs) e4) X) X) X) X) : wpE (aCons f fs) e Q X :=
  w_bind (w_mono h (fun a e' h => w_bind (w_mono h (fun a e' h => w_bind (w_mono h (fun a e' h => w_bind (w_mono h (fun _ _ k => w_run rfl k) fun _ _ h => h)) fun _ _ h => h)) fun _ _ h => h)) fun _ _ h => h)
theorem w_argd {d : D} {Q : Val → Env → Prop} (k : Q (.d d) e) : wpE (argV (.d d)) e Q X := w_run rfl k
theorem w_arga {i : Nat} {Q : Val → Env → Prop} (k : Q (.at_ i) e) : wpE (argV (.at_ i)) e Q X := w_run rfl k
theorem w_argn {o : O} {d : D} {Q : Val → Env → Prop} (h : o.d = some d) (k : Q (.d d) e) : wpE (argV (.new o)) e Q X := w_run (e' := e) (by simp only [argV, M.bind, frz, h, M.ret]) k
theorem w_vnil {Q : List Val → Env → Prop} (k : Q [] e) : wpE vNil e Q X := w_run rfl k
theorem w_vcons {f : M Val} {fs : M (List Val)} {Q : List Val → Env → Prop} (h : wpE f e (fun v e1 => wpE (settle v) e1 (fun x e2 => wpE fs e2 (fun xs e3 => Q (x :: xs) e3) X) X) X) : wpE (vCons f fs) e Q X :=
  w_bind (w_mono h (fun a e' h => w_bind (w_mono h (fun a e' h => w_bind (w_mono h (fun _ _ k => w_run rfl k) fun _ _ h => h)) fun _ _ h => h)) fun _ _ h => h)
theorem w_setd {d : D} (k : Q (.d d) e) : wpE (settle (.d d)) e Q X := w_run rfl k
theorem w_setn {o : O} (k : Q (.new o) e) : wpE (settle (.new o)) e Q X := w_run rfl k
/-! calls -/
theorem w_call {op : List Val → M Val} {fs : M (List Val)} (h : wpE fs e (fun vs e1 => wpE (op vs) e1 Q X) X) : wpE (dCall op fs) e Q X := w_bind h
theorem w_fn {F : M Val} {dfl : List D} {fs : M (List Val)} (h : wpE fs e (fun vs e1 => wpE (callV F dfl vs) e1 Q X) X) : wpE (dFn F dfl fs) e Q X := w_bind h
theorem w_make {c : Str} {F : M Val} {dfl : List D} {fs : M (List Val)} (h : wpE fs e (fun vs e1 => wpE (makeV c F dfl vs) e1 Q X) X) : wpE (dMake c F dfl fs) e Q X := w_bind h
def noAt : Val → Bool
  | .at_ _ => false
  | _ => true
/-- no own object among the arguments -/
def noOw (e : Env) (vs : List Val) : Bool := vs.all fun v => match v with
  | .at_ i => (match e[i]? with
    | some (.ow _) => false
    | _ => true)
  | _ => true
theorem backS_no {vs : List Val} {a : Env} (h : noOw e vs = true) : backS vs a e = e := by
  unfold backS
  refine List.ext_getElem? fun i => ?_
  rw [List.getElem?_mapIdx]
  cases q : e[i]? with
  | none => rfl
  | some s =>
    simp only [Option.map_some]
    split
    · rename_i hs
      cases hpos : posOf vs i with
      | none => rfl
      | some p =>
        exfalso
        unfold posOf at hpos
        obtain ⟨hp, h2, _⟩ := List.findIdx?_eq_some_iff_getElem.mp hpos
        have h3 := (List.all_eq_true.mp h) _ (List.getElem_mem hp)
        cases z : vs[p]'hp with
        | d x => rw [z] at h2; cases h2
        | new x => rw [z] at h2; cases h2
        | at_ j =>
          rw [z] at h2 h3
          have : j = i := by simpa [isAt] using h2
          subst this
          cases s with
          | ow o => simp [q] at h3
          | _ => cases hs
    · rfl
theorem callV_eq {F : M Val} {dfl : List D} {vs : List Val} {P : Val → Env → Prop} {Y : XQ} (hn : nodupAt vs = true) (hF : wpE F (vs.map (argS e) ++ dfl.map SV.sh) P Y) (k : ∀ v a, P v a → noAt v = true ∧ Q v (backS vs a e)) (kx : ∀ x a, Y x a → X x (backS vs a e)) : wpE (callV F dfl vs) e Q X := by
  unfold wpE callV
  rw [if_pos hn]
  unfold wpE at hF
  cases q : F (vs.map (argS e) ++ dfl.map SV.sh) with
  | ok v a =>
    rw [q] at hF
    obtain ⟨h1, h2⟩ := k v a hF
    cases v with
    | at_ i => cases h1
    | d x => exact h2
    | new o => exact h2
  | er x a => rw [q] at hF; exact kx x a hF
  | bad => rw [q] at hF; exact hF
/-- a call that changes no own object -/
theorem w_call0 {F : M Val} {dfl : List D} {vs : List Val} {P : Val → Env → Prop} (hn : nodupAt vs = true) (ho : noOw e vs = true) (hF : wpE F (vs.map (argS e) ++ dfl.map SV.sh) P NX) (k : ∀ v a, P v a → noAt v = true ∧ Q v e) : wpE (callV F dfl vs) e Q X :=
  callV_eq hn hF (fun v a h => by rw [backS_no ho]; exact k v a h) fun _ _ h => h.elim
/-- pure results -/
def RD (d : D) : Val → Env → Prop := fun v _ => v = .d d
def RN (o : O) : Val → Env → Prop := fun v _ => v = .new o
theorem w_call0d {F : M Val} {dfl : List D} {vs : List Val} {d : D} (hn : nodupAt vs = true) (ho : noOw e vs = true) (hF : wpE F (vs.map (argS e) ++ dfl.map SV.sh) (RD d) NX) (k : Q (.d d) e) : wpE (callV F dfl vs) e Q X :=
  w_call0 hn ho hF fun v a h => by cases h; exact ⟨rfl, k⟩
theorem w_call0n {F : M Val} {dfl : List D} {vs : List Val} {d : O} (hn : nodupAt vs = true) (ho : noOw e vs = true) (hF : wpE F (vs.map (argS e) ++ dfl.map SV.sh) (RN d) NX) (k : Q (.new d) e) : wpE (callV F dfl vs) e Q X :=
  w_call0 hn ho hF fun v a h => by cases h; exact ⟨rfl, k⟩
/-- one own object, at argument p, of slot i -/
def oneAt (i p : Nat) (vs : List Val) : Bool := isAt i (vs.getD p (.d .non)) && (vs.eraseIdx p).all noAt && decide (p < vs.length)
theorem backS_one {vs : List Val} {a : Env} {i p : Nat} {o : O} (h : oneAt i p vs = true) (hi : e[i]? = some (.ow o)) : backS vs a e = e.set i ((a[p]?).getD .no) := by
  unfold oneAt at h
  simp only [Bool.and_eq_true, decide_eq_true_eq] at h
  obtain ⟨⟨h1, h2⟩, h3⟩ := h
  have h4 : isAt i vs[p] = true := by rw [List.getD_eq_getElem?_getD, List.getElem?_eq_getElem h3] at h1; exact h1
  have hne : ∀ j (hj : j < vs.length), j ≠ p → noAt vs[j] = true := fun j hj q => by
    refine List.all_eq_true.mp h2 _ ?_
    exact List.mem_eraseIdx_iff_getElem.mpr ⟨j, hj, q, rfl⟩
  have hpos : posOf vs i = some p := by
    unfold posOf
    refine List.findIdx?_eq_some_iff_getElem.mpr ⟨h3, h4, fun j hj => ?_⟩
    have := hne j (by omega) (by omega)
    cases z : vs[j] with
    | at_ k => rw [z] at this; cases this
    | d x => simp [isAt]
    | new x => simp [isAt]
  unfold backS
  refine List.ext_getElem? fun j => ?_
  rw [List.getElem?_mapIdx, List.getElem?_set]
  by_cases hj : i = j
  · subst hj
    have hl : i < e.length := (List.getElem?_eq_some_iff.mp hi).1
    rw [hi]
    simp only [Option.map_some, hpos, isOw, if_true, if_pos hl]
  · rw [if_neg hj]
    cases q : e[j]? with
    | none => rfl
    | some s =>
      simp only [Option.map_some]
      split
      · cases z : posOf vs j with
        | none => rfl
        | some w =>
          exfalso
          unfold posOf at z
          obtain ⟨hp, h5, _⟩ := List.findIdx?_eq_some_iff_getElem.mp z
          by_cases hw : w = p
          · subst hw
            cases y : vs[w] with
            | at_ k => rw [y] at h4 h5; simp [isAt] at h4 h5; omega
            | d x => rw [y] at h5; cases h5
            | new x => rw [y] at h5; cases h5
          · have := hne w hp hw
            cases y : vs[w] with
            | at_ k => rw [y] at this; cases this
            | d x => rw [y] at h5; cases h5
            | new x => rw [y] at h5; cases h5
      · rfl
theorem w_call1 {F : M Val} {dfl : List D} {vs : List Val} {P : Val → Env → Prop} {o : O} (i p : Nat) (hn : nodupAt vs = true) (hi : e[i]? = some (.ow o)) (hp : oneAt i p vs = true) (hF : wpE F (vs.map (argS e) ++ dfl.map SV.sh) P NX) (k : ∀ v a, P v a → noAt v = true ∧ Q v (e.set i ((a[p]?).getD .no))) : wpE (callV F dfl vs) e Q X :=
  callV_eq hn hF (fun v a h => by rw [backS_one hp hi]; exact k v a h) fun _ _ h => h.elim
def methV (op : Val → List D → M Val) (fs : M (List D)) (v : Val) : M Val := M.bind (fun e => if isLstB e v = true then .ok () e else .bad) fun _ => M.bind fs fun vs => M.bind (fixV v) fun v => op v vs
theorem w_meth {op : Val → List D → M Val} {f : M Val} {fs : M (List D)} (h : wpE f e (fun v e1 => wpE (methV op fs v) e1 Q X) X) : wpE (dMeth op f fs) e Q X := w_bind h
theorem w_methV {op : Val → List D → M Val} {v : Val} {fs : M (List D)} (hb : isLstB e v = true) (h : wpE fs e (fun vs e2 => wpE (fixV v) e2 (fun v e3 => wpE (op v vs) e3 Q X) X) X) : wpE (methV op fs v) e Q X := by
  refine w_bind ?_
  refine w_run (a := ()) (e' := e) (by simp only [if_pos hb]) ?_
  exact w_bind (w_mono h (fun _ _ h => w_bind h) fun _ _ h => h)
theorem w_lstM {f : List D → List D → Option (List D × D)} {i : Nat} {ds xs ys : List D} {x : D} (hi : e[i]? = some (.ow (.lst xs))) (h : f xs ds = some (ys, x)) (k : Q (.d x) (e.set i (.ow (.lst ys)))) : wpE (lstM f (.at_ i) ds) e Q X :=
  w_run (by unfold lstM; simp only [hi, h]) k
theorem w_app {i : Nat} {xs : List D} {x : D} {e2 : Env} (hi : e[i]? = some (.ow (.lst xs))) (h : xs.length < sizeLine) (he : e.set i (.ow (.lst (xs ++ [x]))) = e2) (k : Q (.d .non) e2) : wpE (lstM appF (.at_ i) [x]) e Q X := w_lstM hi (by unfold appF; exact if_pos h) (by rw [he]; exact k)
theorem w_ext {i : Nat} {xs zs : List D} {e2 : Env} (hi : e[i]? = some (.ow (.lst xs))) (h : xs.length + zs.length ≤ sizeLine) (he : e.set i (.ow (.lst (xs ++ zs))) = e2) (k : Q (.d .non) e2) : wpE (lstM extF (.at_ i) [.lst zs]) e Q X := w_lstM hi (by unfold extF; exact if_pos h) (by rw [he]; exact k)
theorem w_frzo {i : Nat} {o : O} {x : D} {e2 : Env} {Q : D → Env → Prop} (hi : e[i]? = some (.ow o)) (ho : o.d = some x) (he : e.set i (.sh x) = e2) (k : Q x e2) : wpE (frz (.at_ i)) e Q X := w_run (by unfold frz; simp only [hi, ho, he]) k
theorem w_frzd {x : D} {Q : D → Env → Prop} (k : Q x e) : wpE (frz (.d x)) e Q X := w_run rfl k
theorem w_frzn {o : O} {x : D} {Q : D → Env → Prop} (ho : o.d = some x) (k : Q x e) : wpE (frz (.new o)) e Q X := w_run (by unfold frz; simp only [ho]) k
theorem lt_line {n : Nat} (h : n ≤ 1000) : n < sizeLine := Nat.lt_of_le_of_lt h (by decide)
/-! slices, chains -/
theorem w_sl {f : M Val} {lo hi : M (Option Int)} (h : wpE f e (fun v e1 => wpE lo e1 (fun l e2 => wpE hi e2 (fun h e3 => wpE (fixV v) e3 (fun v e4 => wpE (slV v l h) e4 Q X) X) X) X) X) : wpE (dSl f lo hi) e Q X :=
  w_bind (w_mono h (fun a e' h => w_bind (w_mono h (fun a e' h => w_bind (w_mono h (fun a e' h => w_bind h) fun _ _ h => h)) fun _ _ h => h)) fun _ _ h => h)
theorem w_pnone {Q : Option Int → Env → Prop} (k : Q none e) : wpE pNone e Q X := w_run rfl k
theorem w_psome {i : Int} {Q : Option Int → Env → Prop} (k : Q (some i) e) : wpE (pSome (dC (.int i))) e Q X := w_run rfl k
theorem w_slL {v : Val} {xs : List D} {lo hi : Option Int} (h : vwD e v = some (.lst xs)) (k : Q (.new (.lst (cutD xs lo hi))) e) : wpE (slV v lo hi) e Q X := w_run (by unfold slV; simp only [h]) k
/-! operators -/
theorem w_addI {v u : Val} {i j : Int} (h1 : vwD e v = some (.int i)) (h2 : vwD e u = some (.int j)) (k : Q (.d (.int (i + j))) e) : wpE (addV v u) e Q X := w_run (by unfold addV; simp only [h1, h2]) k
theorem w_addL {v u : Val} {i j : List D} (h1 : vwD e v = some (.lst i)) (h2 : vwD e u = some (.lst j)) (h : i.length + j.length ≤ sizeLine) (k : Q (.new (.lst (i ++ j))) e) : wpE (addV v u) e Q X := w_run (by unfold addV; simp only [h1, h2, if_pos h]) k
theorem w_addT {v u : Val} {i j : List D} (h1 : vwD e v = some (.tup i)) (h2 : vwD e u = some (.tup j)) (h : i.length + j.length ≤ sizeLine) (k : Q (.d (.tup (i ++ j))) e) : wpE (addV v u) e Q X := w_run (by unfold addV; simp only [h1, h2, if_pos h]) k
theorem w_int {C : Int → Int → Bool} {f : Int → Int → D} {v u : Val} {i j : Int} (h1 : vwD e v = some (.int i)) (h2 : vwD e u = some (.int j)) (h : C i j = true) (k : Q (.d (f i j)) e) : wpE (intV C f v u) e Q X := w_run (by unfold intV; simp only [h1, h2, h, if_true]) k
theorem w_boolV {C f : D → D → Bool} {v u : Val} {a b : D} (h1 : vwD e v = some a) (h2 : vwD e u = some b) (h : C a b = true) (k : Q (.d (.bl (f a b))) e) : wpE (boolV C f v u) e Q X := w_run (by unfold boolV; simp only [h1, h2, h, if_true]) k
theorem w_in2 {v u : Val} {a b : D} (h0 : ∀ c kvs, vwO e u ≠ some (.dct c kvs)) (h1 : vwD e v = some a) (h2 : vwD e u = some b) (h : okIn a b = true) (k : Q (.d (.bl (hasD a (itsD b)))) e) : wpE (inV2 v u) e Q X := by
  have hb : inV2 v u e = .ok (.d (.bl (hasD a (itsD b)))) e := by
    have h3 : inV2 v u e = inV v u e := by
      unfold inV2
      cases q : vwO e u with
      | none => rfl
      | some o =>
        cases o with
        | dct c kvs => exact absurd q (h0 c kvs)
        | lst xs => rfl
        | ins c ns xs => rfl
    rw [h3]
    unfold inV boolV
    simp only [h1, h2, h, if_true]
  exact w_run hb k
theorem w_ni2 {v u : Val} {a b : D} (h0 : ∀ c kvs, vwO e u ≠ some (.dct c kvs)) (h1 : vwD e v = some a) (h2 : vwD e u = some b) (h : okIn a b = true) (k : Q (.d (.bl (!hasD a (itsD b)))) e) : wpE (niV2 v u) e Q X := by
  have hb : niV2 v u e = .ok (.d (.bl (!hasD a (itsD b)))) e := by
    have h3 : niV2 v u e = niV v u e := by
      unfold niV2
      cases q : vwO e u with
      | none => rfl
      | some o =>
        cases o with
        | dct c kvs => exact absurd q (h0 c kvs)
        | lst xs => rfl
        | ins c ns xs => rfl
    rw [h3]
    unfold niV boolV
    simp only [h1, h2, h, if_true]
  exact w_run hb k
theorem w_inK {u : Val} {a : D} {b : Bool} {kvs : List (D × D)} (h0 : vwO e u = some (.dct b kvs)) (h : keyOk b a = true) (k : Q (.d (.bl (hasKey b kvs a))) e) : wpE (inV2 (.d a) u) e Q X := w_run (by unfold inV2; simp only [h0, h, if_true]) k
theorem w_ix {v u : Val} {a x : D} {i : Int} (h1 : vwD e v = some a) (h2 : vwD e u = some (.int i)) (h : isSeq a = true) (hx : atI (itsD a) i = some x) (k : Q (.d x) e) : wpE (ixV v u) e Q X := w_run (by unfold ixV; simp only [h1, h2, h, hx]) k
theorem w_fld {cs : List Str} {f : Str} {v : Val} {x : D} (h : (vwD e v).bind (fldOf cs f) = some x) (k : Q (.d x) e) : wpE (fldV cs f v) e Q X := w_run (by unfold fldV; simp only [h]) k
theorem w_fn1 {f : D → Option D} {v : Val} {x : D} (h : (vwD e v).bind f = some x) (k : Q (.d x) e) : wpE (fn1 f [v]) e Q X := w_run (by unfold fn1; simp only [h]) k
theorem w_listC {v : Val} {a : D} (h0 : ∀ c kvs, vwO e v ≠ some (.dct c kvs)) (h : vwD e v = some a) (hs : isSeq a = true) (k : Q (.new (.lst (itsD a))) e) : wpE (listC2 [v]) e Q X := by
  have h3 : listC2 [v] e = listC [v] e := by
    unfold listC2
    cases q : vwO e v with
    | none => simp only [q]
    | some o =>
      cases o with
      | dct c kvs => exact absurd q (h0 c kvs)
      | lst xs => simp only [q]
      | ins c ns xs => simp only [q]
  refine w_run (h3.trans ?_) k
  unfold listC
  simp only [h, hs, if_true]
theorem w_listK {v : Val} {b : Bool} {kvs : List (D × D)} (h0 : vwO e v = some (.dct b kvs)) (k : Q (.new (.lst (kvs.map (·.1)))) e) : wpE (listC2 [v]) e Q X := w_run (by unfold listC2; simp only [h0]) k
theorem w_tupC {v : Val} {a : D} (h : vwD e v = some a) (hs : isSeq a = true) (k : Q (.d (.tup (itsD a))) e) : wpE (tupC [v]) e Q X := w_run (by unfold tupC; simp only [h, hs, if_true]) k
theorem w_sortC {v : Val} {a : D} (h : vwD e v = some a) (hs : isTupD a = false ∧ isSeq a = true ∧ sortOk (itsD a) = true) (k : Q (.new (.lst (sortD (itsD a)))) e) : wpE (sortC [v]) e Q X := w_run (by unfold sortC; simp only [h, if_pos hs]) k
theorem w_isT {ns : List String} {v : Val} {b : Bool} (h : ((vwD e v).bind tyNm).bind (fun t => anyKit t ns) = some b) (k : Q (.d (.bl b)) e) : wpE (isT ns v) e Q X := w_run (by unfold isT; simp only [h]) k
theorem w_chain {p q : Int → Int → Bool} {fa fb fc : M Val} (h : wpE fa e (fun u e1 => wpE fb e1 (fun v e2 => wpE (fixV u) e2 (fun u e3 => ∃ i j, vwD e3 u = some (.int i) ∧ vwD e3 v = some (.int j) ∧ (p i j = true → wpE fc e3 (fun w e4 => wpE (fixV v) e4 (fun v e5 => ∃ j k, vwD e5 v = some (.int j) ∧ vwD e5 w = some (.int k) ∧ Q (.d (.bl (q j k))) e5) X) X) ∧ (p i j = false → Q (.d (.bl false)) e3)) X) X) X) : wpE (dChain p q fa fb fc) e Q X := by
  refine w_bind (w_mono h (fun u e1 h => w_bind (w_mono h (fun v e2 h => w_bind (w_mono h (fun u e3 h => ?_) fun _ _ h => h)) fun _ _ h => h)) fun _ _ h => h)
  obtain ⟨i, j, h1, h2, h3, h4⟩ := h
  cases hp : p i j with
  | true =>
    have h5 := h3 hp
    have h6 : wpE (M.bind fc fun w => M.bind (fixV v) fun v e => match vwD e v, vwD e w with
      | some (.int j), some (.int k) => .ok (.d (.bl (q j k))) e
      | _, _ => .bad) e3 Q X := by
      refine w_bind (w_mono h5 (fun w e4 h => w_bind (w_mono h (fun v e5 h => ?_) fun _ _ h => h)) fun _ _ h => h)
      obtain ⟨j, k, k1, k2, k3⟩ := h
      unfold wpE
      simp only [k1, k2]
      exact k3
    unfold wpE at h6 ⊢
    simp only [h1, h2, hp, if_true]
    exact h6
  | false =>
    unfold wpE
    simp only [h1, h2, hp]
    exact h4 hp
/-! what is walked over -/
theorem w_iVal {f : M Val} {Q : List D × Option Nat → Env → Prop} (h : wpE f e (fun v e1 => wpE (argV v) e1 (fun v e2 => wpE (lookSeq v) e2 Q X) X) X) : wpE (iVal f) e Q X := w_bind (w_mono h (fun _ _ h => w_bind h) fun _ _ h => h)
theorem w_look {v : Val} {a : D} {Q : List D × Option Nat → Env → Prop} (h : vwD e v = some a) (hs : isSeq a = true) (k : Q (itsD a, srcOf v) e) : wpE (lookSeq v) e Q X := w_run (by unfold lookSeq; simp only [h, hs, if_true]) k
theorem rng1_eq {n : Nat} (hn : n ≤ 1000) : rng1 [.int (n : Int)] e = .ok ((My.rgI n).map .int, none) e := by
  unfold rng1
  simp only [My.in62_len hn, if_true, ← My.rangeD_rgI, Int.toNat_natCast]
theorem w_rng1 {n : Nat} {j : Int} {Q : List D × Option Nat → Env → Prop} (h : j = (n : Int)) (hn : n ≤ 1000) (k : Q ((My.rgI n).map .int, none) e) : wpE (rng1 [.int j]) e Q X := by
  have h2 := @rng1_eq e n hn
  rw [← h] at h2
  unfold wpE
  rw [h2]
  exact k
theorem w_en {d : D} {Q : List D × Option Nat → Env → Prop} (h : isSeq d = true) (k : Q (enumD (itsD d), none) e) : wpE (enF [d]) e Q X := w_run (by unfold enF; simp only [h, if_true]) k
theorem w_zip2 {a b : D} {Q : List D × Option Nat → Env → Prop} (ha : isSeq a = true) (hb : isSeq b = true) (k : Q (zip2D (itsD a) (itsD b), none) e) : wpE (zip2F [a, b]) e Q X := w_run (by unfold zip2F; simp only [ha, hb, and_self, if_true]) k
theorem w_zip3 {a b c : D} {Q : List D × Option Nat → Env → Prop} (ha : isSeq a = true) (hb : isSeq b = true) (hc : isSeq c = true) (k : Q (zip3D (itsD a) (itsD b) (itsD c), none) e) : wpE (zip3F [a, b, c]) e Q X := w_run (by unfold zip3F; simp only [ha, hb, hc, and_self, if_true]) k
theorem w_zipL3 {a b c : D} (ha : isSeq a = true) (hb : isSeq b = true) (hc : isSeq c = true) (k : Q (.new (.lst (zip3D (itsD a) (itsD b) (itsD c)))) e) : wpE (zipL3 [a, b, c]) e Q X := w_run (by unfold zipL3; simp only [ha, hb, hc, and_self, if_true]) k
/-! comprehensions -/
def compG (vs : List Nat) (g : TF) (t : M Bool) (fe : M Val) (p : List D × Option Nat) : M Val := fun e => match compLoop vs g t (M.bind fe frz) p.1 [] (wipeE (lockS p.2 e) vs) with
  | .ok xs e' => .ok (.new (.lst xs)) (unlk (didLock p.2 e) e')
  | _ => .bad
theorem w_comp {fi : M (List D × Option Nat)} {vs : List Nat} {g : TF} {t : M Bool} {fe : M Val} (h : wpE fi e (fun p e1 => wpE (compG vs g t fe p) e1 Q X) X) : wpE (dComp fi vs g t fe) e Q X := w_bind h
theorem w_compG {vs : List Nat} {g : TF} {t : M Bool} {fe : M Val} {ds : List D} {src : Option Nat} {e1 E0 : Env} (h0 : wipeE (lockS src e1) vs = E0) (h : wpE (compLoop vs g t (M.bind fe frz) ds []) E0 (fun xs e2 => Q (.new (.lst xs)) (unlk (didLock src e1) e2)) NX) : wpE (compG vs g t fe (ds, src)) e1 Q X := by
  subst h0
  unfold wpE at h ⊢
  unfold compG
  dsimp only
  cases q : compLoop vs g t (M.bind fe frz) ds [] (wipeE (lockS src e1) vs) with
  | ok xs e2 => rw [q] at h; exact h
  | er x e2 => rw [q] at h; exact h.elim
  | bad => rw [q] at h; exact h
/-- with what holds between two turns -/
theorem w_compI {γ : Type} {enc : γ → D} {vs : List Nat} {g : TF} {t : M Bool} {el : M D} {Q : List D → Env → Prop} (I : List γ → List D → Env → Prop) (xs : List γ) (h0 : I [] [] e)
    (st : ∀ pre x post acc e1, xs = pre ++ x :: post → I pre acc e1 → ∃ e2, g (enc x) e1 = some e2 ∧ wpE t e2 (fun b e3 => (b = true → wpE el e3 (fun d e4 => acc.length < sizeLine ∧ I (pre ++ [x]) (acc ++ [d]) (wipeE e4 vs)) NX) ∧ (b = false → I (pre ++ [x]) acc (wipeE e3 vs))) NX)
    (k : ∀ acc e1, I xs acc e1 → Q acc e1) : wpE (compLoop vs g t el (xs.map enc) []) e Q NX := by
  have main : ∀ (post pre : List γ) (acc : List D) (e1 : Env), xs = pre ++ post → I pre acc e1 → wpE (compLoop vs g t el (post.map enc) acc) e1 Q NX := by
    intro post
    induction post with
    | nil =>
      intro pre acc e1 hx hI
      rw [List.append_nil] at hx
      subst hx
      exact w_run rfl (k _ _ hI)
    | cons x post ih =>
      intro pre acc e1 hx hI
      obtain ⟨e2, h1, h2⟩ := st pre x post acc e1 hx hI
      have hx2 : xs = (pre ++ [x]) ++ post := by rw [hx]; simp
      rw [List.map_cons]
      unfold wpE compLoop
      rw [h1]
      dsimp only
      unfold wpE at h2
      cases q : t e2 with
      | er y e3 => rw [q] at h2; exact h2.elim
      | bad => rw [q] at h2; exact h2
      | ok b e3 =>
        rw [q] at h2
        cases b with
        | false => have h4 := ih _ _ _ hx2 (h2.2 rfl); unfold wpE at h4; exact h4
        | true =>
          have h3 := h2.1 rfl
          unfold wpE at h3
          dsimp only
          cases q2 : el e3 with
          | er y e4 => rw [q2] at h3; exact h3.elim
          | bad => rw [q2] at h3; exact h3
          | ok d e4 =>
            rw [q2] at h3
            dsimp only
            rw [if_pos h3.1]
            have h4 := ih _ _ _ hx2 h3.2
            unfold wpE at h4
            exact h4
  exact main xs [] [] e rfl h0
/-- pure: a filter, then a map; pred and element only need be right on the items -/
theorem w_compP {γ : Type} {enc : γ → D} {vs : List Nat} {g : TF} {t : M Bool} {el : M D} {Q : List D → Env → Prop} (xs : List γ) (p : γ → Bool) (f : γ → D) (hl : xs.length ≤ sizeLine)
    (st : ∀ x ∈ xs, ∃ e2, g (enc x) e = some e2 ∧ wpE t e2 (fun b e3 => b = p x ∧ (b = true → wpE el e3 (fun d e4 => d = f x ∧ wipeE e4 vs = e) NX) ∧ (b = false → wipeE e3 vs = e)) NX)
    (k : Q ((xs.filter p).map f) e) : wpE (compLoop vs g t el (xs.map enc) []) e Q NX := by
  refine w_compI (fun pre acc e1 => e1 = e ∧ acc = (pre.filter p).map f) xs ⟨rfl, rfl⟩ ?_ (by rintro acc e1 ⟨rfl, rfl⟩; exact k)
  rintro pre x post acc _ hx ⟨rfl, rfl⟩
  obtain ⟨e2, h1, h2⟩ := st x (by rw [hx]; simp)
  have hlt : ((pre.filter p).map f).length < sizeLine := by
    rw [List.length_map]
    have := List.length_filter_le p pre
    rw [hx, List.length_append, List.length_cons] at hl
    omega
  refine ⟨e2, h1, w_mono h2 ?_ fun _ _ h => h⟩
  rintro b e3 ⟨rfl, h4, h5⟩
  refine ⟨fun hb => w_mono (h4 hb) ?_ fun _ _ h => h, fun hb => ⟨h5 hb, ?_⟩⟩
  · rintro d e4 ⟨rfl, h6⟩
    refine ⟨hlt, h6, ?_⟩
    rw [List.filter_append, List.map_append, List.filter_cons, if_pos hb]; rfl
  · rw [List.filter_append, List.map_append, List.filter_cons, if_neg (by rw [hb]; decide)]; simp
theorem w_compM {γ : Type} {enc : γ → D} {vs : List Nat} {g : TF} {el : M D} {Q : List D → Env → Prop} (xs : List γ) (f : γ → D) (hl : xs.length ≤ sizeLine)
    (st : ∀ x ∈ xs, ∃ e2, g (enc x) e = some e2 ∧ wpE el e2 (fun d e4 => d = f x ∧ wipeE e4 vs = e) NX)
    (k : Q (xs.map f) e) : wpE (compLoop vs g tT el (xs.map enc) []) e Q NX := by
  refine w_compP xs (fun _ => true) f hl (fun x hx => ?_) (by rw [List.filter_eq_self.mpr (fun _ _ => rfl)]; exact k)
  obtain ⟨e2, h1, h2⟩ := st x hx
  exact ⟨e2, h1, w_tT ⟨rfl, fun _ => h2, fun z => by cases z⟩⟩
/-- pure, the whole: the state is E0 within, E1 behind -/
theorem c_pure {γ : Type} {enc : γ → D} {vs : List Nat} {g : TF} {t : M Bool} {fe : M Val} {ds : List D} {src : Option Nat} {e1 E0 E1 : Env} (xs : List γ) (p : γ → Bool) (f : γ → D) (hds : ds = xs.map enc) (h0 : wipeE (lockS src e1) vs = E0) (h1 : unlk (didLock src e1) E0 = E1) (hl : xs.length ≤ sizeLine)
    (st : ∀ x ∈ xs, ∃ e2, g (enc x) E0 = some e2 ∧ wpE t e2 (fun b e3 => b = p x ∧ (b = true → wpE fe e3 (fun v e4 => wpE (frz v) e4 (fun d e5 => d = f x ∧ wipeE e5 vs = E0) NX) NX) ∧ (b = false → wipeE e3 vs = E0)) NX)
    (k : Q (.new (.lst ((xs.filter p).map f))) E1) : wpE (compG vs g t fe (ds, src)) e1 Q X := by
  subst hds
  refine w_compG h0 (w_compP xs p f hl (fun x hx => ?_) (by rw [h1]; exact k))
  obtain ⟨e2, h2, h3⟩ := st x hx
  exact ⟨e2, h2, w_mono h3 (fun b e3 h => ⟨h.1, fun hb => w_bind (h.2.1 hb), h.2.2⟩) fun _ _ h => h⟩
theorem c_map {γ : Type} {enc : γ → D} {vs : List Nat} {g : TF} {fe : M Val} {ds : List D} {src : Option Nat} {e1 E0 E1 : Env} (xs : List γ) (f : γ → D) (hds : ds = xs.map enc) (h0 : wipeE (lockS src e1) vs = E0) (h1 : unlk (didLock src e1) E0 = E1) (hl : xs.length ≤ sizeLine)
    (st : ∀ x ∈ xs, ∃ e2, g (enc x) E0 = some e2 ∧ wpE fe e2 (fun v e4 => wpE (frz v) e4 (fun d e5 => d = f x ∧ wipeE e5 vs = E0) NX) NX)
    (k : Q (.new (.lst (xs.map f))) E1) : wpE (compG vs g tT fe (ds, src)) e1 Q X := by
  subst hds
  refine w_compG h0 (w_compM xs f hl (fun x hx => ?_) (by rw [h1]; exact k))
  obtain ⟨e2, h2, h3⟩ := st x hx
  exact ⟨e2, h2, w_bind h3⟩
/-- with an invariant -/
theorem c_inv {γ : Type} {enc : γ → D} {vs : List Nat} {g : TF} {t : M Bool} {fe : M Val} {ds : List D} {src : Option Nat} {e1 E0 : Env} (I : List γ → List D → Env → Prop) (xs : List γ) (hds : ds = xs.map enc) (h0 : wipeE (lockS src e1) vs = E0) (hI : I [] [] E0)
    (st : ∀ pre x post acc e1, xs = pre ++ x :: post → I pre acc e1 → ∃ e2, g (enc x) e1 = some e2 ∧ wpE t e2 (fun b e3 => (b = true → wpE fe e3 (fun v e4 => wpE (frz v) e4 (fun d e5 => acc.length < sizeLine ∧ I (pre ++ [x]) (acc ++ [d]) (wipeE e5 vs)) NX) NX) ∧ (b = false → I (pre ++ [x]) acc (wipeE e3 vs))) NX)
    (k : ∀ acc e2, I xs acc e2 → Q (.new (.lst acc)) (unlk (didLock src e1) e2)) : wpE (compG vs g t fe (ds, src)) e1 Q X := by
  subst hds
  refine w_compG h0 (w_compI I xs hI (fun pre x post acc e1 hx hI => ?_) k)
  obtain ⟨e2, h2, h3⟩ := st pre x post acc e1 hx hI
  exact ⟨e2, h2, w_mono h3 (fun b e3 h => ⟨fun hb => w_bind (h.1 hb), h.2⟩) fun _ _ h => h⟩
/-- tests decided -/
theorem br_t {P R : Prop} (h : P) : (true = true → P) ∧ (true = false → R) := ⟨fun _ => h, fun z => by cases z⟩
theorem br_f {P R : Prop} (h : R) : (false = true → P) ∧ (false = false → R) := ⟨(fun z => by cases z), fun _ => h⟩
theorem br_of {P R : Prop} {b c : Bool} (e : b = c) (h : (c = true → P) ∧ (c = false → R)) : (b = true → P) ∧ (b = false → R) := by rw [e]; exact h
theorem w_andT {fb : M Val} (h : wpE fb e Q X) : wpE (andV fb (.d (.bl true))) e Q X := by unfold wpE at h ⊢; exact h
theorem w_andF {fb : M Val} (h : Q (.d (.bl false)) e) : wpE (andV fb (.d (.bl false))) e Q X := w_run rfl h
end
end DL

set_option maxHeartbeats 4000000
/-! W1: what holds behind a meaning: statements, bodies, loops. -/
namespace DL
open PySem PySem.Spec PyProof.Rows L2
@[irreducible] def wpS (f : SM) (e : Env) (n : Env → Prop) (r : SO → Prop) : Prop := match f e with
  | .nx e' => n e'
  | .bad => False
  | o => r o
section
variable {e : Env} {n : Env → Prop} {r : SO → Prop}
abbrev xR (r : SO → Prop) : XQ := fun x e => r (.er x e)
theorem s_mono {f : SM} {n' : Env → Prop} {r' : SO → Prop} (h : wpS f e n' r') (k : ∀ e', n' e' → n e') (kr : ∀ o, o ≠ .bad → r' o → r o) : wpS f e n r := by
  unfold wpS at h ⊢
  cases q : f e with
  | nx e' => rw [q] at h; exact k _ h
  | bad => rw [q] at h; exact h.elim
  | bk e' => rw [q] at h; exact kr _ (by intro z; cases z) h
  | ct e' => rw [q] at h; exact kr _ (by intro z; cases z) h
  | rt v e' => rw [q] at h; exact kr _ (by intro z; cases z) h
  | er x e' => rw [q] at h; exact kr _ (by intro z; cases z) h
theorem s_nx (k : n e) : wpS sNx e n r := by unfold wpS; exact k
theorem s_bk (k : r (.bk e)) : wpS SO.bk e n r := by unfold wpS; exact k
theorem s_ct (k : r (.ct e)) : wpS SO.ct e n r := by unfold wpS; exact k
theorem s_seq {f g : SM} (h : wpS f e (fun e' => wpS g e' n r) r) : wpS (sSeq f g) e n r := by
  unfold wpS at h ⊢
  unfold sSeq
  cases q : f e with
  | nx e' => rw [q] at h; exact h
  | bad => rw [q] at h; exact h.elim
  | bk e' => rw [q] at h; exact h
  | ct e' => rw [q] at h; exact h
  | rt v e' => rw [q] at h; exact h
  | er x e' => rw [q] at h; exact h
theorem s_bind {α : Type} {f : M α} {k : α → SM} (h : wpE f e (fun a e' => wpS (k a) e' n r) (xR r)) : wpS (sBind f k) e n r := by
  unfold wpE at h
  unfold wpS sBind
  cases q : f e with
  | ok a e' => rw [q] at h; dsimp only at h; unfold wpS at h; exact h
  | er x e' => rw [q] at h; exact h
  | bad => rw [q] at h; exact h
theorem s_drop {f : M Val} (h : wpE f e (fun _ e' => n e') (xR r)) : wpS (sDrop f) e n r := s_bind (w_mono h (fun _ _ k => s_nx k) fun _ _ h => h)
theorem s_if {fc : M Bool} {f g : SM} (h : wpE fc e (fun b e1 => (b = true → wpS f e1 n r) ∧ (b = false → wpS g e1 n r)) (xR r)) : wpS (sIf fc f g) e n r := by
  refine s_bind (w_mono h (fun b e1 k => ?_) fun _ _ h => h)
  cases b with
  | true => exact k.1 rfl
  | false => exact k.2 rfl
theorem s_set {i : Nat} {f : M Val} (h : wpE f e (fun v e1 => wpS (setV i v) e1 n r) (xR r)) : wpS (sSet i f) e n r := s_bind h
theorem s_setd {i : Nat} {x : D} {e2 : Env} (he : e.set i (.sh x) = e2) (k : n e2) : wpS (setV i (.d x)) e n r := by subst he; unfold wpS; exact k
theorem s_setn {i : Nat} {x : O} {e2 : Env} (he : e.set i (.ow x) = e2) (k : n e2) : wpS (setV i (.new x)) e n r := by subst he; unfold wpS; exact k
theorem s_seta {i j : Nat} {o : O} {x : D} (hj : e[j]? = some (.ow o)) (ho : o.d = some x) {e2 : Env} (he : (e.set j (.sh x)).set i (.sh x) = e2) (k : n e2) : wpS (setV i (.at_ j)) e n r := by
  subst he
  refine s_bind (w_run (a := x) (e' := e.set j (.sh x)) ?_ (by unfold wpS; exact k))
  unfold frz
  simp only [hj, ho]
theorem s_ret {np : Nat} {f : M Val} (h : wpE f e (fun v e1 => wpS (retV np v) e1 n r) (xR r)) : wpS (sRet np f) e n r := s_bind h
theorem s_retd {np : Nat} {x : D} (k : r (.rt (.d x) e)) : wpS (retV np (.d x)) e n r := by unfold wpS; exact k
theorem s_retn {np : Nat} {x : O} (k : r (.rt (.new x) e)) : wpS (retV np (.new x)) e n r := by unfold wpS; exact k
theorem s_reta {np i : Nat} {o : O} (hi : ¬ i < np) (he : e[i]? = some (.ow o)) (k : r (.rt (.new o) (e.set i .no))) : wpS (retV np (.at_ i)) e n r := by
  have h : retV np (.at_ i) e = .rt (.new o) (e.set i .no) := by
    unfold retV
    simp only [if_neg hi, he]
  unfold wpS
  rw [h]
  exact k
theorem s_asg {g : TF} {f : M Val} (h : wpE f e (fun v e1 => wpE (frz v) e1 (fun d e2 => ∃ e3, g d e2 = some e3 ∧ n e3) (xR r)) (xR r)) : wpS (sAsg g f) e n r := by
  refine s_bind (w_mono h (fun v e1 k => s_bind (w_mono k (fun d e2 k => ?_) fun _ _ h => h)) fun _ _ h => h)
  obtain ⟨e3, h1, h2⟩ := k
  unfold wpS sTgt
  simp only [h1]
  exact h2
theorem s_sub {fe fo fi : M Val} (h : wpE fe e (fun v e1 => wpE (frz v) e1 (fun d e2 => wpE fo e2 (fun t e3 => wpE fi e3 (fun j e4 => wpS (storeV t d j) e4 n r) (xR r)) (xR r)) (xR r)) (xR r)) : wpS (sSub fe fo fi) e n r :=
  s_bind (w_mono h (fun v e1 k => s_bind (w_mono k (fun d e2 k => s_bind (w_mono k (fun d e2 k => s_bind k) fun _ _ h => h)) fun _ _ h => h)) fun _ _ h => h)
theorem s_store {i : Nat} {d : D} {k : Int} {xs : List D} {m : Nat} (he : e[i]? = some (.ow (.lst xs))) (hk : ixN xs.length k = some m) (q : n (e.set i (.ow (.lst (xs.set m d))))) : wpS (storeV (.at_ i) d (.d (.int k))) e n r := by
  unfold wpS storeV
  simp only [he, hk]
  exact q
theorem s_par {is : List Nat} {fs : M (List Val)} (h : wpE fs e (fun vs e1 => wpS (setVs is vs) e1 n r) (xR r)) : wpS (sPar is fs) e n r := s_bind h
theorem s_vsd {i : Nat} {is : List Nat} {x : D} {vs : List Val} {e2 : Env} (he : e.set i (.sh x) = e2) (h : wpS (setVs is vs) e2 n r) : wpS (setVs (i :: is) (.d x :: vs)) e n r := by subst he; unfold wpS at h ⊢; exact h
theorem s_vsn {i : Nat} {is : List Nat} {x : O} {vs : List Val} {e2 : Env} (he : e.set i (.ow x) = e2) (h : wpS (setVs is vs) e2 n r) : wpS (setVs (i :: is) (.new x :: vs)) e n r := by subst he; unfold wpS at h ⊢; exact h
theorem s_vs0 (h : n e) : wpS (setVs [] []) e n r := by unfold wpS; exact h
theorem s_fldS {cs : List Str} {f : Str} {fe fo : M Val} (h : wpE fe e (fun v e1 => wpE (frz v) e1 (fun d e2 => wpE fo e2 (fun t e3 => wpS (putFld cs f t d) e3 n r) (xR r)) (xR r)) (xR r)) : wpS (sFldS cs f fe fo) e n r :=
  s_bind (w_mono h (fun v e1 k => s_bind (w_mono k (fun d e2 k => s_bind k) fun _ _ h => h)) fun _ _ h => h)
theorem s_putF {cs : List Str} {f : Str} {i : Nat} {d : D} {c : Str} {ns : List Str} {xs : List D} (he : e[i]? = some (.ow (.ins c ns xs))) (h : c ∈ cs ∧ ns.length < 1000) {e2 : Env} (hh : e.set i (.ow (.ins c (putZ f d ns xs).1 (putZ f d ns xs).2)) = e2) (k : n e2) : wpS (putFld cs f (.at_ i) d) e n r := by
  subst hh
  unfold wpS putFld
  simp only [he, if_pos h]
  exact k
/-! bodies -/
def rF (np : Nat) (Q : Val → Env → Prop) (X : XQ) : SO → Prop
  | .rt v e => Q v (e.take np)
  | .er x e => X x (e.take np)
  | _ => False
theorem w_runF {np N : Nat} {body : SM} {args E : Env} {Q : Val → Env → Prop} {X : XQ} (hl : args.length = np) (hE : args ++ List.replicate (N - np) .no = E) (h : wpS body E (fun e => Q (.d .non) (e.take np)) (rF np Q X)) : wpE (runF np N body) args Q X := by
  subst hE
  unfold wpE runF
  rw [if_pos hl]
  unfold wpS at h
  cases q : body (args ++ List.replicate (N - np) .no) with
  | nx e' => rw [q] at h; exact h
  | bad => rw [q] at h; exact h.elim
  | bk e' => rw [q] at h; exact h
  | ct e' => rw [q] at h; exact h
  | rt v e' => rw [q] at h; exact h
  | er x e' => rw [q] at h; exact h
theorem w_makeV {c : Str} {F : M Val} {dfl : List D} {vs : List Val} {Q : Val → Env → Prop} {X : XQ} (h : wpE (callV F dfl (.at_ e.length :: vs)) (e ++ [.ow (.ins c [] [])]) (fun v e1 => v = .d .non ∧ ∃ o, e1[e.length]? = some (.ow o) ∧ Q (.new o) (e1.take e.length)) (fun x e1 => X x (e1.take e.length))) : wpE (makeV c F dfl vs) e Q X := by
  unfold wpE at h ⊢
  unfold makeV
  cases q : callV F dfl (.at_ e.length :: vs) (e ++ [.ow (.ins c [] [])]) with
  | ok v e1 =>
    rw [q] at h
    obtain ⟨rfl, o, h1, h2⟩ := h
    simp only [h1]
    exact h2
  | er x e1 => rw [q] at h; exact h
  | bad => rw [q] at h; exact h
/-! loops -/
def rL (n : Env → Prop) (c : Env → Prop) (r : SO → Prop) : SO → Prop
  | .bk e => n e
  | .ct e => c e
  | .nx _ => False
  | .bad => False
  | o => r o
def forG (g : TF) (body : SM) (p : List D × Option Nat) : SM := fun e => (forLoop g body p.1 (lockS p.2 e)).mapE (unlk (didLock p.2 e))
theorem s_for {fi : M (List D × Option Nat)} {g : TF} {body : SM} (h : wpE fi e (fun p e1 => wpS (forG g body p) e1 n r) (xR r)) : wpS (sFor fi g body) e n r := s_bind h
theorem s_forG {g : TF} {body : SM} {ds : List D} {src : Option Nat} {E0 : Env} (h0 : lockS src e = E0) (h : wpS (forLoop g body ds) E0 (fun e2 => n (unlk (didLock src e) e2)) (fun o => r (o.mapE (unlk (didLock src e))))) : wpS (forG g body (ds, src)) e n r := by
  subst h0
  unfold wpS at h ⊢
  unfold forG
  dsimp only
  cases q : forLoop g body ds (lockS src e) with
  | nx e' => rw [q] at h; exact h
  | bad => rw [q] at h; exact h.elim
  | bk e' => rw [q] at h; exact h
  | ct e' => rw [q] at h; exact h
  | rt v e' => rw [q] at h; exact h
  | er x e' => rw [q] at h; exact h
theorem s_loop {γ : Type} {enc : γ → D} {g : TF} {body : SM} (I : List γ → Env → Prop) (xs : List γ) (h0 : I [] e)
    (st : ∀ pre x post e1, xs = pre ++ x :: post → I pre e1 → ∃ e2, g (enc x) e1 = some e2 ∧ wpS body e2 (fun e3 => I (pre ++ [x]) e3) (rL n (fun e3 => I (pre ++ [x]) e3) r))
    (k : ∀ e1, I xs e1 → n e1) : wpS (forLoop g body (xs.map enc)) e n r := by
  have main : ∀ (post pre : List γ) (e1 : Env), xs = pre ++ post → I pre e1 → wpS (forLoop g body (post.map enc)) e1 n r := by
    intro post
    induction post with
    | nil =>
      intro pre e1 hx hI
      rw [List.append_nil] at hx
      subst hx
      unfold wpS
      exact k _ hI
    | cons x post ih =>
      intro pre e1 hx hI
      obtain ⟨e2, h1, h2⟩ := st pre x post e1 hx hI
      have hx2 : xs = (pre ++ [x]) ++ post := by rw [hx]; simp
      rw [List.map_cons]
      unfold wpS at h2
      unfold wpS
      cases q : body e2 with
      | nx e3 => rw [q] at h2; rw [forLoop_nx h1 (.inl q)]; have h4 := ih _ _ hx2 h2; unfold wpS at h4; exact h4
      | ct e3 => rw [q] at h2; rw [forLoop_nx h1 (.inr q)]; have h4 := ih _ _ hx2 h2; unfold wpS at h4; exact h4
      | bk e3 => rw [q] at h2; rw [forLoop_bk h1 q]; exact h2
      | rt v e3 => rw [q] at h2; rw [forLoop_rt h1 q]; exact h2
      | er y e3 => rw [q] at h2; rw [forLoop, h1]; simp only [q]; exact h2
      | bad => rw [q] at h2; exact h2.elim
  exact main xs [] e rfl h0
/-- a while with a measure -/
theorem s_while {c : M Bool} {body : SM} (I : Nat → Env → Prop) (m : Nat) (h0 : I m e)
    (st : ∀ m e1, I m e1 → wpE c e1 (fun b e2 => (b = true → wpS body e2 (fun e3 => ∃ m', m' < m ∧ I m' e3) (rL n (fun e3 => ∃ m', m' < m ∧ I m' e3) r)) ∧ (b = false → n e2)) (xR r)) : wpS (sWhile c body) e n r := by
  have main : ∀ (m : Nat) (e1 : Env), I m e1 → ∃ o, (∃ N, whN c body N e1 = some o) ∧ (match o with
      | .nx e' => n e'
      | .bad => False
      | o => r o) := by
    intro m
    induction m using Nat.strongRecOn with
    | _ m ih =>
      intro e1 hI
      have h := st m e1 hI
      unfold wpE at h
      cases q : c e1 with
      | er x e2 => rw [q] at h; exact ⟨.er x e2, ⟨1, by unfold whN; rw [q]⟩, h⟩
      | bad => rw [q] at h; exact h.elim
      | ok b e2 =>
        rw [q] at h
        cases b with
        | false => exact ⟨.nx e2, ⟨1, by unfold whN; rw [q]⟩, h.2 rfl⟩
        | true =>
          have h2 := h.1 rfl
          unfold wpS at h2
          cases q2 : body e2 with
          | nx e3 =>
            rw [q2] at h2
            obtain ⟨m', hm, hI'⟩ := h2
            obtain ⟨o, ⟨N, hN⟩, ho⟩ := ih m' hm e3 hI'
            exact ⟨o, ⟨N + 1, by unfold whN; rw [q]; simp only [q2, hN]⟩, ho⟩
          | ct e3 =>
            rw [q2] at h2
            obtain ⟨m', hm, hI'⟩ := h2
            obtain ⟨o, ⟨N, hN⟩, ho⟩ := ih m' hm e3 hI'
            exact ⟨o, ⟨N + 1, by unfold whN; rw [q]; simp only [q2, hN]⟩, ho⟩
          | bk e3 => rw [q2] at h2; exact ⟨.nx e3, ⟨1, by unfold whN; rw [q]; simp only [q2]⟩, h2⟩
          | rt v e3 => rw [q2] at h2; exact ⟨.rt v e3, ⟨1, by unfold whN; rw [q]; simp only [q2]⟩, h2⟩
          | er y e3 => rw [q2] at h2; exact ⟨.er y e3, ⟨1, by unfold whN; rw [q]; simp only [q2]⟩, h2⟩
          | bad => rw [q2] at h2; exact h2.elim
  obtain ⟨o, ⟨N, hN⟩, ho⟩ := main m e h0
  have hs : sWhile c body e = o := sWhile_eq hN
  unfold wpS
  rw [hs]
  cases o <;> exact ho
/-- a for, the whole -/
theorem f_loop {γ : Type} {enc : γ → D} {g : TF} {body : SM} {ds : List D} {src : Option Nat} {E0 : Env} (I : List γ → Env → Prop) (xs : List γ) (hds : ds = xs.map enc) (h0 : lockS src e = E0) (hI : I [] E0)
    (st : ∀ pre x post e1, xs = pre ++ x :: post → I pre e1 → ∃ e2, g (enc x) e1 = some e2 ∧ wpS body e2 (fun e3 => I (pre ++ [x]) e3) (rL (fun e2 => n (unlk (didLock src e) e2)) (fun e3 => I (pre ++ [x]) e3) (fun o => r (o.mapE (unlk (didLock src e))))))
    (k : ∀ e2, I xs e2 → n (unlk (didLock src e) e2)) : wpS (forG g body (ds, src)) e n r := by
  subst hds
  exact s_forG h0 (s_loop I xs hI st k)
theorem r_rt {np : Nat} {Q : Val → Env → Prop} {X : XQ} {v : Val} (h : Q v (e.take np)) : rF np Q X (.rt v e) := h
theorem l_rt {c : Env → Prop} {v : Val} (h : r (.rt v e)) : rL n c r (.rt v e) := h
theorem l_bk {c : Env → Prop} (h : n e) : rL n c r (.bk e) := h
theorem l_ct {c : Env → Prop} (h : c e) : rL n c r (.ct e) := h
theorem l_rtM {c : Env → Prop} {v : Val} {f : Env → Env} (h : rL n c r (.rt v (f e))) : rL n c r (SO.mapE f (.rt v e)) := h
theorem r_rtM {np : Nat} {Q : Val → Env → Prop} {X : XQ} {v : Val} {f : Env → Env} (h : rF np Q X (.rt v (f e))) : rF np Q X (SO.mapE f (.rt v e)) := h
theorem r_rtM2 {np : Nat} {Q : Val → Env → Prop} {X : XQ} {v : Val} {f g : Env → Env} (h : rF np Q X (.rt v (g (f e)))) : rF np Q X (SO.mapE g (SO.mapE f (.rt v e))) := h
theorem r_rtM3 {np : Nat} {Q : Val → Env → Prop} {X : XQ} {v : Val} {f g k : Env → Env} (h : rF np Q X (.rt v (k (g (f e))))) : rF np Q X (SO.mapE k (SO.mapE g (SO.mapE f (.rt v e)))) := h
theorem r_rtM4 {np : Nat} {Q : Val → Env → Prop} {X : XQ} {v : Val} {f g k l : Env → Env} (h : rF np Q X (.rt v (l (k (g (f e)))))) : rF np Q X (SO.mapE l (SO.mapE k (SO.mapE g (SO.mapE f (.rt v e))))) := h
theorem s_cut {f g : SM} (n' : Env → Prop) (h : wpS f e n' (fun _ => False)) (k : ∀ e', n' e' → wpS g e' n r) : wpS (sSeq f g) e n r := s_seq (s_mono h k fun _ _ h => h.elim)
end
end DL

set_option maxHeartbeats 4000000
/-! W2a: equality, membership behind a meaning. -/
namespace DL
open PySem PySem.Spec PyProof.Rows L2
theorem okN_lst' (n : Nat) (xs : List D) : okN (n + 1) (.lst xs) = xs.all (okN n) := by rw [okN]
theorem okN_lstI (a : List Int) : okN 60 (.lst (a.map .int)) = true := by
  rw [okN_lst', List.all_map, List.all_eq_true]
  intro x _
  exact okN_int
theorem okN_tupI2 (a : List Int) : okN 60 (.tup (a.map .int)) = true := okN_tupI 59 a
theorem okN_lstT (a : List (List Int)) : okN 60 (.lst (a.map My.eT)) = true := by
  rw [okN_lst', List.all_map, List.all_eq_true]
  intro x _
  exact okN_tupI 58 x
theorem okN_tupT (a : List (List Int)) : okN 60 (.tup (a.map My.eT)) = true := by
  rw [okN_tup, List.all_map, List.all_eq_true]
  intro x _
  exact okN_tupI 58 x
section
variable {e : Env} {X : XQ} {Q : Val → Env → Prop}
theorem w_eqII {v u : Val} {i j : Int} (h1 : vwD e v = some (.int i)) (h2 : vwD e u = some (.int j)) (k : Q (.d (.bl (decide (i = j)))) e) : wpE (DL.eqV v u) e Q X := w_boolV h1 h2 rfl (by rw [eqvD_int]; exact k)
theorem w_neII {v u : Val} {i j : Int} (h1 : vwD e v = some (.int i)) (h2 : vwD e u = some (.int j)) (k : Q (.d (.bl (!decide (i = j)))) e) : wpE (neV v u) e Q X := w_boolV h1 h2 rfl (by rw [eqvD_int]; exact k)
theorem okEq_TT (a b : List Int) : okEq (.tup (a.map .int)) (.tup (b.map .int)) = true := by unfold okEq; rw [okN_tupI, okN_tupI]; rfl
theorem w_eqTT {v u : Val} {i j : List D} {a b : List Int} (h1 : vwD e v = some (.tup i)) (h2 : vwD e u = some (.tup j)) (k1 : i = a.map .int) (k2 : j = b.map .int) (k : Q (.d (.bl (decide (a = b)))) e) : wpE (DL.eqV v u) e Q X := by
  subst k1 k2; exact w_boolV h1 h2 (okEq_TT a b) (by rw [eqvD_tup]; exact k)
theorem w_neTT {v u : Val} {i j : List D} {a b : List Int} (h1 : vwD e v = some (.tup i)) (h2 : vwD e u = some (.tup j)) (k1 : i = a.map .int) (k2 : j = b.map .int) (k : Q (.d (.bl (!decide (a = b)))) e) : wpE (neV v u) e Q X := by
  subst k1 k2; exact w_boolV h1 h2 (okEq_TT a b) (by rw [eqvD_tup]; exact k)
theorem eqvD_nilL (xs : List D) : eqvD (.lst xs) (.lst []) = xs.isEmpty := by
  unfold eqvD pd
  rw [PyData.eqv]
  cases xs with
  | nil => rfl
  | cons x xs => rfl
theorem w_eqN {v u : Val} {xs : List D} (h1 : vwD e v = some (.lst xs)) (h2 : vwD e u = some (.lst [])) (ho : okN 60 (.lst xs) = true) (k : Q (.d (.bl xs.isEmpty)) e) : wpE (DL.eqV v u) e Q X :=
  w_boolV h1 h2 (by unfold okEq; rw [ho]; rfl) (by rw [eqvD_nilL]; exact k)
theorem w_neN {v u : Val} {xs : List D} (h1 : vwD e v = some (.lst xs)) (h2 : vwD e u = some (.lst [])) (ho : okN 60 (.lst xs) = true) (k : Q (.d (.bl (!xs.isEmpty))) e) : wpE (neV v u) e Q X :=
  w_boolV h1 h2 (by unfold okEq; rw [ho]; rfl) (by rw [eqvD_nilL]; exact k)
theorem okIn_of {a b : D} (ha : okN 60 a = true) (hb : okN 60 b = true) (hs : isSeq b = true) : okIn a b = true := by unfold okIn; rw [ha, hb, hs]; rfl
theorem w_inI {v u : Val} {b : D} {i : Int} {l : List Int} (h1 : vwD e v = some (.int i)) (h2 : vwD e u = some b) (hs : isSeq b = true) (hi : itsD b = l.map .int) (ho : okN 60 b = true) (h0 : ∀ c kvs, vwO e u ≠ some (.dct c kvs)) (k : Q (.d (.bl (l.contains i))) e) : wpE (inV2 v u) e Q X :=
  w_in2 h0 h1 h2 (okIn_of rfl ho hs) (by rw [hi, hasD_int]; exact k)
theorem w_inT {v u : Val} {b : D} {i : List Int} {l : List (List Int)} (h1 : vwD e v = some (.tup (i.map .int))) (h2 : vwD e u = some b) (hs : isSeq b = true) (hi : itsD b = l.map My.eT) (ho : okN 60 b = true) (h0 : ∀ c kvs, vwO e u ≠ some (.dct c kvs)) (k : Q (.d (.bl (l.contains i))) e) : wpE (inV2 v u) e Q X :=
  w_in2 h0 h1 h2 (okIn_of (okN_tupI2 i) ho hs) (by rw [hi, hasD_tup]; exact k)
theorem w_niI {v u : Val} {b : D} {i : Int} {l : List Int} (h1 : vwD e v = some (.int i)) (h2 : vwD e u = some b) (hs : isSeq b = true) (hi : itsD b = l.map .int) (ho : okN 60 b = true) (h0 : ∀ c kvs, vwO e u ≠ some (.dct c kvs)) (k : Q (.d (.bl (!l.contains i))) e) : wpE (niV2 v u) e Q X :=
  w_ni2 h0 h1 h2 (okIn_of rfl ho hs) (by rw [hi, hasD_int]; exact k)
theorem w_niT {v u : Val} {b : D} {i : List Int} {l : List (List Int)} (h1 : vwD e v = some (.tup (i.map .int))) (h2 : vwD e u = some b) (hs : isSeq b = true) (hi : itsD b = l.map My.eT) (ho : okN 60 b = true) (h0 : ∀ c kvs, vwO e u ≠ some (.dct c kvs)) (k : Q (.d (.bl (!l.contains i))) e) : wpE (niV2 v u) e Q X :=
  w_ni2 h0 h1 h2 (okIn_of (okN_tupI2 i) ho hs) (by rw [hi, hasD_tup]; exact k)
theorem blsOf_map {γ : Type} (f : γ → Bool) : ∀ xs : List γ, blsOf (xs.map fun x => .bl (f x)) = some (xs.map f)
  | [] => rfl
  | x :: xs => by rw [List.map_cons, blsOf, blsOf_map f xs]; rfl
theorem w_allF {γ : Type} {f : γ → Bool} {xs : List γ} {v : Val} (h : vwD e v = some (.lst (xs.map fun x => .bl (f x)))) (k : Q (.d (.bl (xs.all f))) e) : wpE (fn1 allF [v]) e Q X := by
  refine w_fn1 (x := .bl (xs.all f)) ?_ k
  rw [h]
  show (blsOf _).map _ = _
  rw [blsOf_map, Option.map_some, List.all_map]
  rfl
theorem w_anyF {γ : Type} {f : γ → Bool} {xs : List γ} {v : Val} (h : vwD e v = some (.lst (xs.map fun x => .bl (f x)))) (k : Q (.d (.bl (xs.any f))) e) : wpE (fn1 anyF [v]) e Q X := by
  refine w_fn1 (x := .bl (xs.any f)) ?_ k
  rw [h]
  show (blsOf _).map _ = _
  rw [blsOf_map, Option.map_some, List.any_map]
  rfl
theorem w_listL {v : Val} {xs : List D} (h0 : ∀ c kvs, vwO e v ≠ some (.dct c kvs)) (h : vwD e v = some (.lst xs)) (k : Q (.new (.lst xs)) e) : wpE (listC2 [v]) e Q X := w_listC h0 h rfl k
theorem w_listT {v : Val} {xs : List D} (h0 : ∀ c kvs, vwO e v ≠ some (.dct c kvs)) (h : vwD e v = some (.tup xs)) (k : Q (.new (.lst xs)) e) : wpE (listC2 [v]) e Q X := w_listC h0 h rfl k
theorem w_tupL {v : Val} {xs : List D} (h : vwD e v = some (.lst xs)) (k : Q (.d (.tup xs)) e) : wpE (tupC [v]) e Q X := w_tupC h rfl k
theorem w_tupT {v : Val} {xs : List D} (h : vwD e v = some (.tup xs)) (k : Q (.d (.tup xs)) e) : wpE (tupC [v]) e Q X := w_tupC h rfl k
theorem w_lookL {v : Val} {xs : List D} {Q : List D × Option Nat → Env → Prop} (h : vwD e v = some (.lst xs)) (k : Q (xs, srcOf v) e) : wpE (lookSeq v) e Q X := w_look h rfl k
theorem w_lookT {v : Val} {xs : List D} {Q : List D × Option Nat → Env → Prop} (h : vwD e v = some (.tup xs)) (k : Q (xs, srcOf v) e) : wpE (lookSeq v) e Q X := w_look h rfl k
theorem w_enL {xs : List D} {Q : List D × Option Nat → Env → Prop} (k : Q (enumD xs, none) e) : wpE (enF [.lst xs]) e Q X := w_en rfl k
theorem w_enT {xs : List D} {Q : List D × Option Nat → Env → Prop} (k : Q (enumD xs, none) e) : wpE (enF [.tup xs]) e Q X := w_en rfl k
theorem w_popAt {i : Nat} {xs : List D} {k : Int} {x : D} {e2 : Env} (hi : e[i]? = some (.ow (.lst xs))) (h0 : 0 ≤ k) (h1 : k < xs.length) (hx : xs[k.toNat]? = some x) (hs : xs.length ≤ 100000) (he : e.set i (.ow (.lst (xs.eraseIdx k.toNat))) = e2) (q : Q (.d x) e2) : wpE (lstM popAtF (.at_ i) [.int k]) e Q X := by
  refine w_lstM (x := x) (ys := xs.eraseIdx k.toNat) hi ?_ (by rw [he]; exact q)
  unfold popAtF
  simp only
  rw [if_pos (by omega)]
  have : seqIndex? k xs.length = some k.toNat := by
    unfold seqIndex?
    simp only [if_neg (show ¬ k < 0 by omega)]
    rw [if_pos]
    simp only [Bool.and_eq_true, decide_eq_true_eq]
    omega
  rw [this]
  simp only [hx, Option.map_some]
theorem intsOf_map {γ : Type} (f : γ → Int) : ∀ xs : List γ, intsOf (xs.map fun x => .int (f x)) = some (xs.map f)
  | [] => rfl
  | x :: xs => by rw [List.map_cons, intsOf, intsOf_map f xs]; rfl
theorem w_sumF {γ : Type} {f : γ → Int} {xs : List γ} {v : Val} (h : vwD e v = some (.lst (xs.map fun x => .int (f x)))) (k : Q (.d (.int (xs.map f).sum)) e) : wpE (fn1 sumF [v]) e Q X := by
  refine w_fn1 (x := .int (xs.map f).sum) ?_ k
  rw [h]
  show (intsOf _).map _ = _
  rw [intsOf_map, Option.map_some]
theorem w_sl1 {v : Val} {xs : List D} (h : vwD e v = some (.lst xs)) (k : Q (.new (.lst xs.tail)) e) : wpE (slV v (some 1) none) e Q X := w_slL h (by rw [My.cut_tail]; exact k)
theorem w_allT {γ : Type} {xs : List γ} {v : Val} (h : vwD e v = some (.lst (xs.map fun _ => .bl true))) (k : Q (.d (.bl true)) e) : wpE (fn1 allF [v]) e Q X := w_allF (f := fun _ => true) h (by rw [show xs.all (fun _ => true) = true by simp]; exact k)
theorem br_nt {P R : Prop} (h : R) : ((!true) = true → P) ∧ ((!true) = false → R) := ⟨(fun z => by cases z), fun _ => h⟩
theorem br_nf {P R : Prop} (h : P) : ((!false) = true → P) ∧ ((!false) = false → R) := ⟨fun _ => h, fun z => by cases z⟩
theorem br_dn {P R : Prop} {p : Prop} [Decidable p] (hp : ¬ p) (h : R) : (decide p = true → P) ∧ (decide p = false → R) := ⟨fun z => absurd (of_decide_eq_true z) hp, fun _ => h⟩
theorem br_nd {P R : Prop} {p : Prop} [Decidable p] (hp : p) (h : R) : ((!decide p) = true → P) ∧ ((!decide p) = false → R) := by rw [decide_eq_true hp]; exact br_nt h
/-- dict comprehensions -/
theorem w_dcI {γ : Type} {enc : γ → D} {b : Bool} {vs : List Nat} {g : TF} {t : M Bool} {fk fv : M D} {Q : List (D × D) → Env → Prop} (I : List γ → List (D × D) → Env → Prop) (xs : List γ) (h0 : I [] [] e)
    (st : ∀ pre x post acc e1, xs = pre ++ x :: post → I pre acc e1 → ∃ e2, g (enc x) e1 = some e2 ∧ wpE t e2 (fun c e3 => (c = true → wpE fk e3 (fun d e4 => wpE fv e4 (fun z e5 => keyOk b d = true ∧ acc.length < sizeLine ∧ I (pre ++ [x]) (putD b acc d z) (wipeE e5 vs)) NX) NX) ∧ (c = false → I (pre ++ [x]) acc (wipeE e3 vs))) NX)
    (k : ∀ acc e1, I xs acc e1 → Q acc e1) : wpE (dcLoop b vs g t fk fv (xs.map enc) []) e Q NX := by
  have main : ∀ (post pre : List γ) (acc : List (D × D)) (e1 : Env), xs = pre ++ post → I pre acc e1 → wpE (dcLoop b vs g t fk fv (post.map enc) acc) e1 Q NX := by
    intro post
    induction post with
    | nil =>
      intro pre acc e1 hx hI
      rw [List.append_nil] at hx
      subst hx
      exact w_run rfl (k _ _ hI)
    | cons x post ih =>
      intro pre acc e1 hx hI
      obtain ⟨e2, h1, h2⟩ := st pre x post acc e1 hx hI
      have hx2 : xs = (pre ++ [x]) ++ post := by rw [hx]; simp
      rw [List.map_cons]
      unfold wpE dcLoop
      rw [h1]
      dsimp only
      unfold wpE at h2
      cases q : t e2 with
      | er y e3 => rw [q] at h2; exact h2.elim
      | bad => rw [q] at h2; exact h2
      | ok c e3 =>
        rw [q] at h2
        cases c with
        | false => have h4 := ih _ _ _ hx2 (h2.2 rfl); unfold wpE at h4; exact h4
        | true =>
          have h3 := h2.1 rfl
          unfold wpE at h3
          dsimp only
          cases q2 : fk e3 with
          | er y e4 => rw [q2] at h3; exact h3.elim
          | bad => rw [q2] at h3; exact h3
          | ok d e4 =>
            rw [q2] at h3
            dsimp only at h3 ⊢
            cases q3 : fv e4 with
            | er y e5 => rw [q3] at h3; exact h3.elim
            | bad => rw [q3] at h3; exact h3
            | ok z e5 =>
              rw [q3] at h3
              dsimp only at h3 ⊢
              rw [if_pos ⟨h3.1, h3.2.1⟩]
              have h4 := ih _ _ _ hx2 h3.2.2
              unfold wpE at h4
              exact h4
  exact main xs [] [] e rfl h0
def dcG (b : Bool) (vs : List Nat) (g : TF) (t : M Bool) (fk fv : M Val) (p : List D × Option Nat) : M Val := fun e => match dcLoop b vs g t (M.bind fk frz) (M.bind fv frz) p.1 [] (wipeE (lockS p.2 e) vs) with
  | .ok kvs e' => .ok (.new (.dct b kvs)) (unlk (didLock p.2 e) e')
  | _ => .bad
theorem w_dc {b : Bool} {fi : M (List D × Option Nat)} {vs : List Nat} {g : TF} {t : M Bool} {fk fv : M Val} (h : wpE fi e (fun p e1 => wpE (dcG b vs g t fk fv p) e1 Q X) X) : wpE (dDc b fi vs g t fk fv) e Q X := w_bind h
theorem d_inv {γ : Type} {enc : γ → D} {b : Bool} {vs : List Nat} {g : TF} {t : M Bool} {fk fv : M Val} {ds : List D} {src : Option Nat} {e1 E0 : Env} (I : List γ → List (D × D) → Env → Prop) (xs : List γ) (hds : ds = xs.map enc) (h0 : wipeE (lockS src e1) vs = E0) (hI : I [] [] E0)
    (st : ∀ pre x post acc e1, xs = pre ++ x :: post → I pre acc e1 → ∃ e2, g (enc x) e1 = some e2 ∧ wpE t e2 (fun c e3 => (c = true → wpE fk e3 (fun v e4 => wpE (frz v) e4 (fun d e5 => wpE fv e5 (fun v e6 => wpE (frz v) e6 (fun z e7 => keyOk b d = true ∧ acc.length < sizeLine ∧ I (pre ++ [x]) (putD b acc d z) (wipeE e7 vs)) NX) NX) NX) NX) ∧ (c = false → I (pre ++ [x]) acc (wipeE e3 vs))) NX)
    (k : ∀ acc e2, I xs acc e2 → Q (.new (.dct b acc)) (unlk (didLock src e1) e2)) : wpE (dcG b vs g t fk fv (ds, src)) e1 Q X := by
  subst hds h0
  have h : wpE (dcLoop b vs g t (M.bind fk frz) (M.bind fv frz) (xs.map enc) []) (wipeE (lockS src e1) vs) (fun kvs e2 => Q (.new (.dct b kvs)) (unlk (didLock src e1) e2)) NX := by
    refine w_dcI I xs hI (fun pre x post acc e1 hx hI => ?_) k
    obtain ⟨e2, h2, h3⟩ := st pre x post acc e1 hx hI
    exact ⟨e2, h2, w_mono h3 (fun c e3 h => ⟨fun hc => w_bind (w_mono (h.1 hc) (fun _ _ h => w_mono h (fun _ _ h => w_bind h) fun _ _ h => h) fun _ _ h => h), h.2⟩) fun _ _ h => h⟩
  unfold wpE at h ⊢
  unfold dcG
  dsimp only
  cases q : dcLoop b vs g t (M.bind fk frz) (M.bind fv frz) (xs.map enc) [] (wipeE (lockS src e1) vs) with
  | ok kvs e2 => rw [q] at h; exact h
  | er x e2 => rw [q] at h; exact h.elim
  | bad => rw [q] at h; exact h
end
end DL

set_option maxHeartbeats 4000000
/-! W2s: sorted(..) of tuples of numbers. -/
namespace My
open PySem PySem.Spec PyProof.Rows L2 DL
def leT (a b : List Int) : Bool := decide (a ≤ b)
def sortT (xs : List (List Int)) : List (List Int) := xs.mergeSort leT
theorem pd_eT (a : List Int) : pd (eT a) = .tuple (a.map .int) := by
  unfold pd
  congr 1
  induction a with
  | nil => rfl
  | cons x a ih => simp only [List.map_cons, pdL, ih]; rfl
theorem dataLe_eT (a b : List Int) : PySem.W.dataLe false pd (eT a) (eT b) = leT a b := by
  show (!PySem.W.dataLt (pd (eT b)) (pd (eT a))) = _
  rw [pd_eT, pd_eT, PySem.W.dataLt_tuple]
  show (!PySem.W.rowLt (b.map .int) (a.map .int)) = _
  rw [PySem.W.dataLt_ints]
  unfold leT
  by_cases h : b < a
  · have h' : ¬ a ≤ b := fun r => List.not_lt.mpr r h
    simp [h, h']
  · have h' : a ≤ b := List.not_lt.mp h
    simp [h, h']
theorem leT_trans (a b c : List Int) (h : leT a b = true) (k : leT b c = true) : leT a c = true := by
  unfold leT at *
  simp only [decide_eq_true_eq] at *
  exact List.le_trans h k
theorem leT_total (a b : List Int) : (leT a b || leT b a) = true := by
  unfold leT
  simp only [Bool.or_eq_true, decide_eq_true_eq]
  exact List.le_total a b
theorem leT_anti (a b : List Int) (h : leT a b = true) (k : leT b a = true) : a = b := by
  unfold leT at *
  simp only [decide_eq_true_eq] at *
  exact List.le_antisymm h k
theorem sortT_perm (xs : List (List Int)) : (sortT xs).Perm xs := List.mergeSort_perm xs leT
theorem mem_sortT {a : List Int} {xs : List (List Int)} : a ∈ sortT xs ↔ a ∈ xs := (sortT_perm xs).mem_iff
theorem sortT_sorted (xs : List (List Int)) : (sortT xs).Pairwise fun a b => leT a b = true := List.pairwise_mergeSort leT_trans leT_total xs
theorem sorted_unique : ∀ {xs ys : List (List Int)}, xs.Perm ys → xs.Pairwise (fun a b => leT a b = true) → ys.Pairwise (fun a b => leT a b = true) → xs = ys
  | [], ys, p, _, _ => (List.Perm.nil_eq p)
  | x :: xs, [], p, _, _ => by have := p.length_eq; simp at this
  | x :: xs, y :: ys, p, h, k => by
    rw [List.pairwise_cons] at h k
    have e : x = y := by
      have h1 : x ∈ y :: ys := p.mem_iff.mp (by simp)
      have h2 : y ∈ x :: xs := p.mem_iff.mpr (by simp)
      rcases List.mem_cons.mp h1 with h1 | h1
      · exact h1
      · rcases List.mem_cons.mp h2 with h2 | h2
        · exact h2.symm
        · exact leT_anti _ _ (h.1 _ h2) (k.1 _ h1)
    subst e
    rw [sorted_unique ((List.perm_cons x).mp p) h.2 k.2]
theorem sortT_congr {xs ys : List (List Int)} (p : xs.Perm ys) : sortT xs = sortT ys := sorted_unique (((sortT_perm xs).trans p).trans (sortT_perm ys).symm) (sortT_sorted xs) (sortT_sorted ys)
theorem sortD_map (xs : List (List Int)) : sortD (xs.map eT) = (sortT xs).map eT := by
  unfold sortD sortT
  rw [← List.map_mergeSort (f := eT) (r := leT) (s := PySem.W.dataLe false pd)]
  intro a _ b _
  exact (dataLe_eT a b).symm
open PySem.W in
theorem alikeAll_ints : ∀ a b : List Int, PySem.W.alikeAll (a.map PyData.int) (b.map PyData.int) = true
  | [], [] => by simp [PySem.W.alikeAll]
  | [], b :: bs => by simp [PySem.W.alikeAll]
  | a :: as, [] => by simp [PySem.W.alikeAll]
  | a :: as, b :: bs => by simp [PySem.W.alikeAll, PySem.W.alike, alikeAll_ints as bs]
theorem sortOk_map (xs : List (List Int)) (h : (∀ x ∈ xs, x ≠ []) ∨ ∃ r, xs = [] :: r) : sortOk (xs.map eT) = true := by
  unfold sortOk
  simp only [Bool.and_eq_true]
  refine ⟨⟨?_, ?_⟩, ?_⟩
  · rw [List.all_map, List.all_eq_true]
    intro x _
    exact okN_tupI2 x
  · unfold alikeB
    rw [List.all_eq_true]
    intro d hd
    rw [List.all_eq_true]
    intro d' hd'
    rw [List.map_map] at hd hd'
    obtain ⟨a, _, rfl⟩ := List.mem_map.mp hd
    obtain ⟨b, _, rfl⟩ := List.mem_map.mp hd'
    simp only [Function.comp_def, pd_eT, PySem.W.alike]
    exact alikeAll_ints a b
  · unfold sortE
    simp only [Bool.or_eq_true]
    rcases h with h | ⟨r, rfl⟩
    · refine .inl (.inl ?_)
      rw [List.all_map, List.all_map, List.all_eq_true]
      intro x hx
      have := h x hx
      cases x with
      | nil => exact absurd rfl this
      | cons a x => simp only [Function.comp_def, pd_eT]; rfl
    · refine .inr ?_
      simp only [List.map_cons, pd_eT, List.map_nil]
      rw [List.all_map, List.all_map, List.all_eq_true]
      intro x hx
      simp only [Function.comp_def, pd_eT]; rfl
end My
namespace DL
open PySem PySem.Spec PyProof.Rows L2
theorem w_sortT {e : Env} {X : XQ} {Q : Val → Env → Prop} {v : Val} {xs : List (List Int)} (h : vwD e v = some (.lst (xs.map My.eT))) (hs : (∀ x ∈ xs, x ≠ []) ∨ ∃ r, xs = [] :: r) (k : Q (.new (.lst ((My.sortT xs).map My.eT))) e) : wpE (sortC [v]) e Q X :=
  w_sortC h ⟨rfl, rfl, My.sortOk_map xs hs⟩ (by show Q (.new (.lst (sortD (xs.map My.eT)))) e; rw [My.sortD_map]; exact k)
/-! calls that leave their arguments as they were -/
theorem backS_same {vs : List Val} {dfl : List D} {e : Env} (hn : nodupAt vs = true) : backS vs (vs.map (argS e) ++ dfl.map SV.sh) e = e := by
  unfold backS
  refine List.ext_getElem? fun i => ?_
  rw [List.getElem?_mapIdx]
  cases q : e[i]? with
  | none => rfl
  | some s =>
    simp only [Option.map_some]
    split
    · rename_i hs
      cases hpos : posOf vs i with
      | none => rfl
      | some p =>
        dsimp only
        unfold posOf at hpos
        obtain ⟨hp, h2, _⟩ := List.findIdx?_eq_some_iff_getElem.mp hpos
        cases z : vs[p]'hp with
        | d x => rw [z] at h2; cases h2
        | new x => rw [z] at h2; cases h2
        | at_ j =>
          rw [z] at h2
          have hj : j = i := by simpa [isAt] using h2
          subst hj
          rw [List.getElem?_append_left (by rw [List.length_map]; exact hp), List.getElem?_map, List.getElem?_eq_getElem hp, z]
          cases s with
          | ow o => simp [argS, q]
          | no => cases hs
          | sh d => cases hs
          | lk o => cases hs
    · rfl
def RDs (args : Env) (d : D) : Val → Env → Prop := fun v a => v = .d d ∧ a = args
def RNs (args : Env) (d : O) : Val → Env → Prop := fun v a => v = .new d ∧ a = args
theorem w_callS {F : M Val} {dfl : List D} {vs : List Val} {P : Val → Prop} {e : Env} {X : XQ} {Q : Val → Env → Prop} (hn : nodupAt vs = true) (hF : wpE F (vs.map (argS e) ++ dfl.map SV.sh) (fun v a => P v ∧ a = vs.map (argS e) ++ dfl.map SV.sh) NX) (k : ∀ v, P v → noAt v = true ∧ Q v e) : wpE (callV F dfl vs) e Q X :=
  callV_eq hn hF (fun v a h => by rw [h.2, backS_same hn]; exact k v h.1) fun _ _ h => h.elim
theorem w_callSd {F : M Val} {dfl : List D} {vs : List Val} {d : D} {e : Env} {X : XQ} {Q : Val → Env → Prop} (hn : nodupAt vs = true) (hF : wpE F (vs.map (argS e) ++ dfl.map SV.sh) (RDs (vs.map (argS e) ++ dfl.map SV.sh) d) NX) (k : Q (.d d) e) : wpE (callV F dfl vs) e Q X :=
  w_callS (P := fun v => v = .d d) hn hF fun v h => by cases h; exact ⟨rfl, k⟩
theorem w_callSn {F : M Val} {dfl : List D} {vs : List Val} {d : O} {e : Env} {X : XQ} {Q : Val → Env → Prop} (hn : nodupAt vs = true) (hF : wpE F (vs.map (argS e) ++ dfl.map SV.sh) (RNs (vs.map (argS e) ++ dfl.map SV.sh) d) NX) (k : Q (.new d) e) : wpE (callV F dfl vs) e Q X :=
  w_callS (P := fun v => v = .new d) hn hF fun v h => by cases h; exact ⟨rfl, k⟩
end DL

set_option maxHeartbeats 4000000
/-! W3: what holds behind try, raise, calls with keywords. -/
namespace DL
open PySem PySem.Spec PyProof.Rows L2
/-! what holds behind -/
section
variable {e : Env} {n : Env → Prop} {r : SO → Prop}
theorem s_raise {c f : Str} {fs : M (List D)} (h : wpE fs e (fun xs e1 => ∃ x, xs = [x] ∧ r (.er ⟨c, [f], [x]⟩ e1)) (xR r)) : wpS (sRaise c f fs) e n r := by
  refine s_bind (w_mono h (fun xs e1 k => ?_) fun _ _ h => h)
  obtain ⟨x, rfl, k⟩ := k
  unfold wpS erV
  exact k
/-- what a try wants of its body's end -/
def rT (sub : Str → Option Bool) (i : Nat) (hd : Addr → Addr → SM) (n : Env → Prop) (r : SO → Prop) : SO → Prop
  | .er x e1 => (sub x.cls = some true ∧ ∃ R : SO, (∀ a d, offS i (hd a d (e1.set i (.sh (.exn a d x.ns x.xs)))) = R) ∧ (match R with
      | .nx e' => n e'
      | .er _ _ => False
      | .bad => False
      | o => r o)) ∨ (sub x.cls = some false ∧ r (.er x e1))
  | o => r o
end
end DL

set_option maxHeartbeats 4000000
/-! W4: two fors, dicts, name += t, lambdas. -/
namespace DL
open PySem PySem.Spec PyProof.Rows L2
section
variable {e : Env} {X : XQ} {Q : Val → Env → Prop}
def comp2G (vs : List Nat) (g : TF) (t : M Bool) (vs1 : List Nat) (fi1 : M (List D × Option Nat)) (g1 : TF) (t1 : M Bool) (fe : M Val) (p : List D × Option Nat) : M Val := fun e => match compLoop2 vs vs1 g t fi1 g1 t1 (M.bind fe frz) p.1 [] (wipeE (lockS p.2 e) vs) with
  | .ok xs e' => .ok (.new (.lst xs)) (unlk (didLock p.2 e) e')
  | _ => .bad
end
section
variable {e : Env} {n : Env → Prop} {r : SO → Prop}
end
section
variable {e : Env} {X : XQ} {Q : Val → Env → Prop}
end
end DL

local macro_rules | `(tactic| walk_at "zl") => `(tactic| (refine DL.lt_line ?_; (try simp only [List.length_append, List.length_map, List.length_cons, List.length_nil, My.rgI_length]); omega))
local macro_rules | `(tactic| walk_at "zok") => `(tactic| first | assumption | exact DL.okN_lstI _ | exact DL.okN_tupI2 _ | exact DL.okN_lstT _ | exact DL.okN_tupT _)
local macro_rules | `(tactic| walk_at "zlen") => `(tactic| first | ((simp only [List.length_map, My.rgI_length, List.length_cons, List.length_nil]); (first | done | rfl)) | rfl)
local macro_rules | `(tactic| walk_at "zle") => `(tactic| first | omega | ((simp only [List.length_append, List.length_map, List.length_cons, List.length_nil, My.rgI_length]); omega) | assumption)
local macro_rules | `(tactic| walk_at "ze") => `(tactic| ((try simp only [DL.lockS, DL.didLock, DL.unlk, DL.wipeE, DL.srcOf, List.set_cons_zero, List.set_cons_succ, List.getElem?_cons_zero, List.getElem?_cons_succ, List.take_succ_cons, List.take_zero, List.cons_append, List.nil_append, List.replicate, Nat.reduceSub]); (first | done | rfl)))
local macro_rules | `(tactic| walk_at "zn") => `(tactic| first | (with_reducible rfl) | exact Nat.le_of_ble_eq_true rfl | (refine My.len_line ?_; (try simp only [List.length_append, List.length_map, List.length_cons, List.length_nil, My.rgI_length]); omega) | assumption)
local macro_rules | `(tactic| walk_at "zints") => `(tactic| first | (with_reducible rfl) | exact (show _ = List.map DL.D.int [_, _, _] from rfl) | exact (show _ = List.map DL.D.int [_, _] from rfl) | exact (show _ = List.map DL.D.int [_] from rfl) | exact (show _ = List.map DL.D.int [] from rfl) | (with_unfolding_all rfl))
local macro_rules | `(tactic| walk_at "zw") => `(tactic| first
  | ((with_reducible apply DL.w_var); rfl)
  | (with_reducible apply DL.w_c)
  | (with_reducible apply DL.w_bin)
  | ((with_reducible apply DL.w_fix); rfl)
  | (with_reducible apply DL.w_acons)
  | (with_reducible apply DL.w_anil)
  | (with_reducible apply DL.w_argd)
  | (with_reducible apply DL.w_arga)
  | ((with_reducible apply DL.w_argn); rfl)
  | (with_reducible apply DL.w_call)
  | (with_reducible apply DL.w_fn)
  | (with_reducible apply DL.w_fcons)
  | (with_reducible apply DL.w_fnil)
  | (with_reducible apply DL.w_frzd)
  | ((with_reducible apply DL.w_frzn); (focus rfl))
  | ((with_reducible apply DL.w_frzo); (focus rfl); (focus rfl); (focus walk_at "ze"))
  | (with_reducible apply DL.w_ask)
  | (with_reducible apply DL.w_askB)
  | (with_reducible apply DL.w_tup)
  | ((with_reducible apply DL.w_tupV); (walk_at "zn"))
  | (with_reducible apply DL.w_lst)
  | ((with_reducible apply DL.w_lstV); (walk_at "zn"))
  | (with_reducible apply DL.w_un)
  | (with_reducible apply DL.w_comp)
  | (with_reducible apply DL.w_iVal)
  | ((with_reducible apply DL.w_lookL); (focus rfl))
  | ((with_reducible apply DL.w_lookT); (focus rfl))
  | ((with_reducible apply DL.w_look); rfl; rfl)
  | ((with_reducible apply DL.w_addI); rfl; rfl)
  | ((with_reducible apply DL.w_int); (focus rfl); (focus rfl); (focus first | rfl | exact decide_eq_true (by omega)))
  | ((with_reducible apply DL.w_allT); (focus rfl))
  | ((with_reducible apply DL.w_allF); (focus rfl))
  | ((with_reducible apply DL.w_anyF); (focus rfl))
  | ((with_reducible apply DL.w_sumF); (focus rfl))
  | ((with_reducible apply DL.w_fn1); (with_unfolding_all rfl))
  | ((with_reducible apply DL.w_fld); rfl)
  | ((with_reducible apply DL.w_tupL); (focus rfl))
  | ((with_reducible apply DL.w_tupT); (focus rfl))
  | ((with_reducible apply DL.w_listL); (focus (intro _ _ z; cases z)); (focus rfl))
  | ((with_reducible apply DL.w_listT); (focus (intro _ _ z; cases z)); (focus rfl))
  | ((with_reducible apply DL.w_rng1); (walk_at "zlen"); (walk_at "zle"))
  | (with_reducible apply DL.w_enL)
  | (with_reducible apply DL.w_enT)
  | ((with_reducible apply DL.w_zip2); rfl; rfl)
  | ((with_reducible apply DL.w_zip3); rfl; rfl; rfl)
  | ((with_reducible apply DL.w_zipL3); rfl; rfl; rfl)
  | ((with_reducible apply DL.w_ix); rfl; rfl; rfl; (first | (with_reducible rfl) | ((refine My.atI_row (And.intro ?_ ?_)); (focus walk_at "zle"); (focus walk_at "zle")) | (with_unfolding_all rfl)))
  | ((with_reducible apply DL.w_eqII); rfl; rfl)
  | ((with_reducible apply DL.w_neII); rfl; rfl)
  | ((with_reducible apply DL.w_eqTT); rfl; rfl; (walk_at "zints"); (walk_at "zints"))
  | ((with_reducible apply DL.w_neTT); rfl; rfl; (walk_at "zints"); (walk_at "zints"))
  | ((with_reducible apply DL.w_eqN); (focus rfl); (focus rfl); (focus walk_at "zok"))
  | ((with_reducible apply DL.w_neN); (focus rfl); (focus rfl); (focus walk_at "zok"))
  | ((with_reducible apply DL.w_inI); rfl; rfl; (with_unfolding_all rfl); (with_unfolding_all rfl); (walk_at "zok"); (intro _ _ z; cases z))
  | ((with_reducible apply DL.w_inT); rfl; rfl; (with_unfolding_all rfl); (with_unfolding_all rfl); (walk_at "zok"); (intro _ _ z; cases z))
  | ((with_reducible apply DL.w_niI); rfl; rfl; (with_unfolding_all rfl); (with_unfolding_all rfl); (walk_at "zok"); (intro _ _ z; cases z))
  | ((with_reducible apply DL.w_niT); rfl; rfl; (with_unfolding_all rfl); (with_unfolding_all rfl); (walk_at "zok"); (intro _ _ z; cases z))
  | (with_reducible apply DL.w_if)
  | (with_reducible apply DL.w_tand)
  | (with_reducible apply DL.w_tor)
  | (with_reducible apply DL.w_tnot)
  | (with_reducible apply DL.w_and)
  | (with_reducible apply DL.w_andT)
  | (with_reducible apply DL.w_andF)
  | (with_reducible apply DL.w_vcons)
  | (with_reducible apply DL.w_vnil)
  | (with_reducible apply DL.w_setd)
  | (with_reducible apply DL.w_setn)
  | (with_reducible apply DL.w_sl)
  | (with_reducible apply DL.w_pnone)
  | (with_reducible apply DL.w_psome)
  | ((with_reducible apply DL.w_sl1); (focus rfl))
  | ((with_reducible apply DL.w_slL); rfl)
  | (with_reducible apply DL.w_make)
  | (with_reducible apply DL.w_meth)
  | ((with_reducible apply DL.w_methV); (focus rfl))
  | ((with_reducible apply DL.w_app); (focus rfl); (focus walk_at "zl"); (focus walk_at "ze"))
  | ((with_reducible apply DL.w_ext); (focus rfl); (focus walk_at "zn"); (focus walk_at "ze"))
  | (with_reducible apply DL.br_t)
  | (with_reducible apply DL.br_f)
  | (with_reducible apply DL.w_bind)
  | (with_reducible apply DL.w_tT)
  | (with_reducible apply DL.br_nt)
  | (with_reducible apply DL.br_nf)
  | (with_reducible apply DL.w_dc)
  | ((with_reducible apply DL.w_isT); (focus rfl))
  | (with_reducible apply DL.w_chain)
  | ((with_reducible apply DL.w_listK); (focus rfl))
  | (with_reducible apply DL.w_ret))
local macro_rules | `(tactic| walk_at "zs") => `(tactic| first
  | (with_reducible apply DL.s_seq)
  | (with_reducible apply DL.s_set)
  | ((with_reducible apply DL.s_setd); (walk_at "ze"))
  | ((with_reducible apply DL.s_setn); (walk_at "ze"))
  | ((with_reducible apply DL.s_seta); (focus rfl); (focus rfl); (focus walk_at "ze"))
  | (with_reducible apply DL.s_ret)
  | (with_reducible apply DL.s_retd)
  | (with_reducible apply DL.s_retn)
  | ((with_reducible apply DL.s_reta); (exact Nat.not_lt_of_le (Nat.le_of_ble_eq_true rfl)); rfl)
  | (with_reducible apply DL.s_for)
  | (with_reducible apply DL.s_if)
  | (with_reducible apply DL.s_drop)
  | (with_reducible apply DL.s_nx)
  | (with_reducible apply DL.s_bk)
  | (with_reducible apply DL.s_asg)
  | (with_reducible apply DL.s_par)
  | ((with_reducible apply DL.s_vsd); (focus walk_at "ze"))
  | ((with_reducible apply DL.s_vsn); (focus walk_at "ze"))
  | (with_reducible apply DL.s_vs0)
  | (with_reducible apply DL.s_sub)
  | (with_reducible apply DL.s_fldS)
  | (with_reducible apply DL.r_rt)
  | (with_reducible apply DL.l_rtM)
  | (with_reducible apply DL.r_rtM)
  | (with_reducible apply DL.r_rtM2)
  | (with_reducible apply DL.r_rtM3)
  | (with_reducible apply DL.r_rtM4)
  | (with_reducible apply DL.l_rt)
  | (with_reducible apply DL.l_bk)
  | (with_reducible apply DL.l_ct)
  | (walk_at "zw"))
local macro_rules | `(tactic| walk_at "zc") => `(tactic| ((focus with_unfolding_all rfl); (focus walk_at "ze"); (focus walk_at "ze"); (focus walk_at "zn")))
local macro_rules | `(tactic| walk_at "zci") => `(tactic| ((focus with_unfolding_all rfl); (focus walk_at "ze")))
local macro_rules | `(tactic| walk_at "zpf") => `(tactic| (refine ⟨rfl, fun hb => ?_, fun _ => (by walk_at "ze")⟩; (repeat walk_at "zs"); refine ⟨rfl, (by walk_at "ze")⟩))
local macro_rules | `(tactic| walk_at "zme") => `(tactic| ((repeat walk_at "zs"); refine ⟨rfl, (by walk_at "ze")⟩))
local macro_rules | `(tactic| walk_at "zend") => `(tactic| exact (rfl : _ = _))
local macro_rules | `(tactic| walk_at "zg") => `(tactic| (simp only [DL.lockS, DL.didLock, DL.unlk, DL.wipeE, DL.srcOf, List.set_cons_zero, List.set_cons_succ, List.getElem?_cons_zero, List.getElem?_cons_succ, List.take_succ_cons, List.take_zero, Option.getD_some]))
local macro_rules | `(tactic| walk_at "zz") => `(tactic| repeat walk_at "zs")
local macro_rules | `(tactic| walk_at "zk0n") => `(tactic| ((with_reducible apply DL.w_call0n); (focus rfl); (focus rfl)))
local macro_rules | `(tactic| walk_at "zk0d") => `(tactic| ((with_reducible apply DL.w_call0d); (focus rfl); (focus rfl)))
local macro_rules | `(tactic| walk_at "zkSn") => `(tactic| ((with_reducible apply DL.w_callSn); (focus rfl)))
local macro_rules | `(tactic| walk_at "zkSd") => `(tactic| ((with_reducible apply DL.w_callSd); (focus rfl)))
local macro_rules | `(tactic| walk_at "zk1") => `(tactic| ((with_reducible apply DL.w_call1 0 0); (focus rfl); (focus rfl); (focus rfl)))

namespace My
open PySem PySem.Spec PyProof.Rows L2 DL
theorem fm_len {α β : Type} {f : α → List β} {B : Nat} : ∀ {l : List α}, (∀ x ∈ l, (f x).length ≤ B) → (l.flatMap f).length ≤ l.length * B
  | [], _ => by simp
  | x :: l, h => by
    have h1 := h x (by simp)
    have h2 := fm_len (l := l) fun y hy => h y (by simp [hy])
    rw [List.flatMap_cons, List.length_append, List.length_cons, Nat.succ_mul]
    omega
theorem atI_map {γ : Type} {enc : γ → D} [Inhabited γ] {xs : List γ} {i : Int} (h : 0 ≤ i ∧ i < xs.length) : atI (xs.map enc) i = some (enc (xs.getD i.toNat default)) := by
  rw [atI_of h.1 (by simpa using h.2), List.getElem?_map, List.getD_eq_getElem?_getD, List.getElem?_eq_getElem (by omega)]
  rfl
abbrev eL (xs : List Int) : D := .lst (xs.map .int)
abbrev eTs (xs : List (List Int)) : D := .tup (xs.map eT)
abbrev eLs (xs : List (List Int)) : D := .lst (xs.map eT)
theorem enum_rg {γ : Type} [Inhabited γ] (enc : γ → D) (xs : List γ) : enumD (xs.map enc) = (rgI xs.length).map fun i => .tup [.int i, enc (xs.getD i.toNat default)] := by
  unfold enumD rgI
  refine List.ext_getElem (by simp) fun i h1 h2 => ?_
  have h3 : i < xs.length := by simpa using h2
  simp [List.getD_eq_getElem?_getD, List.getElem?_eq_getElem h3]
theorem zip3_rg (a b c : List Int) (hb : b.length = a.length) (hc : c.length = a.length) : zip3D (a.map .int) (b.map .int) (c.map .int) = (rgI a.length).map fun i => eT [atZ a i, atZ b i, atZ c i] := by
  unfold zip3D rgI
  refine List.ext_getElem (by simp [hb, hc]) fun i h1 h2 => ?_
  have h3 : i < a.length := by simpa using h2
  have h4 : i < b.length := by omega
  have h5 : i < c.length := by omega
  simp [atZ, List.getD_eq_getElem?_getD, List.getElem?_eq_getElem h3, List.getElem?_eq_getElem h4, List.getElem?_eq_getElem h5]
def atF (places one other kind : List Int) : List Int := (rgI places.length).filter fun i => decide ([atZ places i, atZ one i, atZ other i] = kind)
def unlikeF (places one other : List Int) : List (List Int) := ((rgI places.length).filter fun i => !decide (atZ one i = atZ other i)).map fun i => [atZ places i, atZ one i, atZ other i]
theorem v_setW (one other lot : List Int) (l : D) (hl : isSeq l = true) (hi : itsD l = lot.map .int) (hk : okN 60 l = true) (h : other.length = one.length) (h2 : one.length ≤ 1000) :
    wpE m__law_set [.sh (eT one), .sh (eT other), .sh l] (RD (eT (setF one other lot))) NX := w_run (v_set one other lot l hl hi hk h h2) rfl
def subsL (ps : List Int) : List (List Int) := (ps.foldl stepL [[]]).drop 1
theorem stepL_len (f : List (List Int)) (p : Int) : (stepL f p).length = 2 * f.length := by unfold stepL; rw [List.length_append, List.length_map]; omega
theorem foldL_len (ps : List Int) (f : List (List Int)) : (ps.foldl stepL f).length = f.length * 2 ^ ps.length := by
  induction ps generalizing f with
  | nil => simp
  | cons p ps ih => rw [List.foldl_cons, ih, stepL_len, List.length_cons, Nat.pow_succ, Nat.mul_comm 2, Nat.mul_assoc, Nat.mul_comm 2]
theorem foldL_item (ps : List Int) (f : List (List Int)) (B : Nat) (h : ∀ l ∈ f, l.length ≤ B) : ∀ l ∈ ps.foldl stepL f, l.length ≤ B + ps.length := by
  induction ps generalizing f B with
  | nil => simpa using h
  | cons p ps ih =>
    intro l hl
    rw [List.foldl_cons] at hl
    have := ih (stepL f p) (B + 1) (fun l hl => by
      unfold stepL at hl
      rcases List.mem_append.mp hl with h1 | h1
      · have := h l h1; omega
      · obtain ⟨m, hm, rfl⟩ := List.mem_map.mp h1
        have := h m hm
        rw [List.length_append, List.length_singleton]; omega) l hl
    rw [List.length_cons]; omega
theorem eT_snoc (l : List Int) (x : Int) : D.tup (l.map .int ++ [.int x]) = eT (l ++ [x]) := by
  show D.tup _ = D.tup _
  rw [List.map_append]; rfl
end My

namespace My
open PySem PySem.Spec PyProof.Rows L2 DL
theorem atZ_mem {xs : List Int} {i : Int} (h : 0 ≤ i ∧ i < xs.length) : atZ xs i ∈ xs := by
  unfold atZ
  rw [List.getD_eq_getElem?_getD, List.getElem?_eq_getElem (by omega)]
  exact List.getElem_mem _
def kindsO (cols : List Int) (c o : Int) : List (List Int) := ((rgI (atZ cols c).toNat).filter fun n => !decide (n = o)).map fun n => [c, o, n]
def kindsC (cols : List Int) (c : Int) : List (List Int) := (rgI (atZ cols c).toNat).flatMap (kindsO cols c)
def kindsF (cols : List Int) : List (List Int) := (rgI cols.length).flatMap (kindsC cols)
theorem kindsO_len (cols : List Int) (c o : Int) (h : atZ cols c ≤ 4) : (kindsO cols c o).length ≤ 4 := by
  unfold kindsO
  rw [List.length_map]
  refine Nat.le_trans (List.length_filter_le _ _) ?_
  rw [rgI_length]; omega
theorem kindsC_len (cols : List Int) (c : Int) (h : 0 ≤ atZ cols c ∧ atZ cols c ≤ 4) : (kindsC cols c).length ≤ 16 := by
  unfold kindsC
  have := fm_len (f := kindsO cols c) (B := 4) (l := rgI (atZ cols c).toNat) fun x _ => kindsO_len cols c x h.2
  rw [rgI_length] at this
  omega
end My

namespace My
open PySem PySem.Spec PyProof.Rows L2 DL
abbrev Chk := List Int × List (List Int)
abbrev eC (c : Chk) : D := .tup [eT c.1, eTs c.2]
def okC (c : Chk) : Prop := c.1.length ≤ 3 ∧ ∀ r ∈ c.2, r.length = c.1.length
def L3 (left : List (List Int)) (kind : List Int) (c : Chk) (one other : List Int) : Prop := (∀ k ∈ unlikeF c.1 one other, k ∈ left) → ∀ lot ∈ subsL (atF c.1 one other kind), setF one other lot ∈ c.2
instance {left kind c one other} : Decidable (L3 left kind c one other) := by unfold L3; exact inferInstance
def letP (checks : List Chk) (left : List (List Int)) (kind : List Int) : Prop := ∀ c ∈ checks, ∀ one ∈ c.2, ∀ other ∈ c.2, L3 left kind c one other
instance {checks left kind} : Decidable (letP checks left kind) := by unfold letP; exact inferInstance
theorem atF_len (places one other kind : List Int) : (atF places one other kind).length ≤ places.length := by
  unfold atF
  refine Nat.le_trans (List.length_filter_le _ _) ?_
  rw [rgI_length]; exact Nat.le_refl _
end My

namespace My
open PySem PySem.Spec PyProof.Rows L2 DL
def stepR (checks : List Chk) (l : List (List Int)) : List (List Int) := l.filter fun k => !decide (letP checks l k)
def restN (checks : List Chk) : Nat → List (List Int) → List (List Int)
  | 0, l => l
  | n + 1, l => restN checks n (stepR checks l)
theorem stepR_of (checks : List Chk) (l : List (List Int)) : l.filter (fun k => !(l.filter fun k => decide (letP checks l k)).contains k) = stepR checks l := by
  unfold stepR
  refine List.filter_congr fun k hk => ?_
  congr 1
  rw [Bool.eq_iff_iff]
  simp [hk]
theorem stepR_none (checks : List Chk) (l : List (List Int)) (h : l.filter (fun k => decide (letP checks l k)) = []) : stepR checks l = l := by
  unfold stepR
  rw [List.filter_eq_self]
  intro k hk
  have := List.filter_eq_nil_iff.mp h k hk
  simpa using this
theorem restN_fix (checks : List Chk) (l : List (List Int)) (h : stepR checks l = l) : ∀ n, restN checks n l = l
  | 0 => rfl
  | n + 1 => by rw [restN, h]; exact restN_fix checks l h n
theorem stepR_len (checks : List Chk) (l : List (List Int)) : (stepR checks l).length ≤ l.length := List.length_filter_le _ _
def PLay (checks : List Chk) (kinds : List (List Int)) (v : Val) : Prop := ∃ L : D, v = .new (.lst [L, .lst ((restN checks kinds.length kinds).map eT)])
/-- the law's is_ranked -/
def restC (checks : List Chk) (lot : List Int) : List Chk := ((rgI checks.length).filter fun i => !lot.contains i).map fun i => checks.getD i.toNat default
def rankB (cols : List Int) (checks : List Chk) : Bool := (restN checks (kindsF cols).length (kindsF cols)).isEmpty

end My

namespace My
open PySem PySem.Spec PyProof.Rows L2 DL
theorem v_takeW (b : Int × Int) (n : Int) (h : 0 < n) (h2 : n < 1073741824) : wpE m__law_take [.ow (boxO b), .sh (.int n)] (fun v a => ∃ r b', v = .d (.int r) ∧ a = [.ow (boxO b'), .sh (.int n)] ∧ 0 ≤ r ∧ r < n) NX :=
  w_run (v_take b n h h2) ⟨_, _, rfl, rfl, tkR_ge b h, tkR_lt b h⟩
theorem v_pickI (b : Int × Int) (ns : List Int) (h : 0 < ns.length) (h2 : ns.length ≤ 1000) : wpE m__law_pick [.ow (boxO b), .sh (.lst (ns.map .int))] (fun v a => ∃ r b', v = .d (.int r) ∧ a = [.ow (boxO b'), .sh (.lst (ns.map .int))] ∧ r ∈ ns) NX := by
  have hl : (ns.map D.int).length = ns.length := List.length_map _
  have h3 := tkR_ge b (n := ns.length) (by omega)
  have h4 := tkR_lt b (n := ns.length) (by omega)
  refine w_run (v_pick b (ns.map .int) (d := .int (ns.getD (tkR b ns.length).toNat 0)) (by omega) (by omega) ?_) ⟨_, _, rfl, rfl, ?_⟩
  · rw [hl, List.getElem?_map, List.getD_eq_getElem?_getD, List.getElem?_eq_getElem (by omega)]; rfl
  · rw [List.getD_eq_getElem?_getD, List.getElem?_eq_getElem (by omega)]
    exact List.getElem_mem _
theorem v_pickD (b : Int × Int) (ns : List D) (h : 0 < ns.length) (h2 : ns.length ≤ 1000) : wpE m__law_pick [.ow (boxO b), .sh (.lst ns)] (fun v a => ∃ r b', v = .d r ∧ a = [.ow (boxO b'), .sh (.lst ns)] ∧ r ∈ ns) NX := by
  have h3 := tkR_ge b (n := ns.length) (by omega)
  have h4 := tkR_lt b (n := ns.length) (by omega)
  refine w_run (v_pick b ns (d := ns[(tkR b ns.length).toNat]'(by omega)) (by omega) (by omega) (List.getElem?_eq_getElem _)) ⟨_, _, rfl, rfl, List.getElem_mem _⟩
theorem v_boxW (ns : List Int) (k : Int) (h0 : 0 ≤ k) (h1 : k < 1000) : wpE m__law_box [.sh (.rol (ns.map .int)), .sh (.int k)] (fun v a => ∃ b, v = .new (boxO b)) NX := by
  obtain ⟨b, hb⟩ := v_box ns k h0 h1
  exact w_run hb ⟨b, rfl⟩
theorem er_map {α β : Type} (f : α → β) : ∀ (l : List α) (n : Nat), (l.eraseIdx n).map f = (l.map f).eraseIdx n
  | [], _ => rfl
  | x :: l, 0 => rfl
  | x :: l, n + 1 => by simp only [List.eraseIdx_cons_succ, List.map_cons, er_map f l n]
end My

namespace My
open PySem PySem.Spec PyProof.Rows L2 DL
def extR (cols : List Int) (p : Int) (row : List Int) : List (List Int) := (rgI (atZ cols p).toNat).map fun v => row ++ [v]
def stepA (cols : List Int) (found : List (List Int)) (p : Int) : List (List Int) := found.flatMap (extR cols p)
def allRowsF (cols places : List Int) : List (List Int) := places.foldl (stepA cols) [[]]
theorem stepA_len (cols : List Int) (B : Nat) (hv : ∀ c ∈ cols, 0 ≤ c ∧ c ≤ (B : Int)) (p : Int) (hp : 0 ≤ p ∧ p < cols.length) (found : List (List Int)) : (stepA cols found p).length ≤ found.length * B :=
  fm_len fun row _ => by unfold extR; rw [List.length_map, rgI_length]; have := hv _ (atZ_mem hp); omega
theorem foldA_len (cols : List Int) (B : Nat) (hv : ∀ c ∈ cols, 0 ≤ c ∧ c ≤ (B : Int)) : ∀ (ps : List Int) (f : List (List Int)), (∀ p ∈ ps, 0 ≤ p ∧ p < (cols.length : Int)) → (ps.foldl (stepA cols) f).length ≤ f.length * B ^ ps.length
  | [], f, _ => by simp
  | p :: ps, f, h => by
    rw [List.foldl_cons, List.length_cons, Nat.pow_succ, Nat.mul_comm (B ^ ps.length), ← Nat.mul_assoc]
    exact Nat.le_trans (foldA_len cols B hv ps _ fun q hq => h q (by simp [hq])) (Nat.mul_le_mul_right _ (stepA_len cols B hv p (h p (by simp)) f))
theorem foldA_item (cols : List Int) : ∀ (ps : List Int) (f : List (List Int)) (n : Nat), (∀ r ∈ f, r.length = n) → ∀ r ∈ ps.foldl (stepA cols) f, r.length = n + ps.length
  | [], f, n, h => by simpa using h
  | p :: ps, f, n, h => by
    intro r hr
    rw [List.foldl_cons] at hr
    have := foldA_item cols ps (stepA cols f p) (n + 1) (fun r hr => by
      unfold stepA extR at hr
      obtain ⟨a, ha, hr⟩ := List.mem_flatMap.mp hr
      obtain ⟨v, _, rfl⟩ := List.mem_map.mp hr
      rw [List.length_append, List.length_singleton, h a ha]) r hr
    rw [List.length_cons]; omega
end My

namespace My
open PySem PySem.Spec PyProof.Rows L2 DL
def validR (cols places r : List Int) : Prop := r.length = places.length ∧ ∀ i : Nat, i < places.length → 0 ≤ atZ r i ∧ atZ r i < atZ cols (atZ places i)
theorem atZ_cons0 (x : Int) (xs : List Int) : atZ (x :: xs) ((0 : Nat) : Int) = x := rfl
theorem atZ_consS (x : Int) (xs : List Int) (i : Nat) : atZ (x :: xs) ((i + 1 : Nat) : Int) = atZ xs (i : Nat) := rfl
theorem rows_in (cols : List Int) : ∀ (ps : List Int) (f : List (List Int)) (a r : List Int), a ∈ f → validR cols ps r → a ++ r ∈ ps.foldl (stepA cols) f
  | [], f, a, r, ha, h => by
    have : r = [] := List.eq_nil_of_length_eq_zero h.1
    rw [this, List.append_nil]; exact ha
  | p :: ps, f, a, [], ha, h => by have := h.1; simp at this
  | p :: ps, f, a, v :: r, ha, h => by
    have h0 := h.2 0 (by simp)
    rw [atZ_cons0, atZ_cons0] at h0
    have h2 : a ++ [v] ∈ stepA cols f p := by
      unfold stepA extR
      refine List.mem_flatMap.mpr ⟨a, ha, List.mem_map.mpr ⟨v, ?_, rfl⟩⟩
      unfold rgI
      exact List.mem_map.mpr ⟨v.toNat, List.mem_range.mpr (by omega), by omega⟩
    have h3 := rows_in cols ps (stepA cols f p) (a ++ [v]) r h2 ⟨by have := h.1; simpa using this, fun i hi => by
      have := h.2 (i + 1) (by simp; exact hi)
      rw [atZ_consS, atZ_consS] at this
      exact this⟩
    rw [List.append_assoc] at h3
    exact h3
theorem rows_of (cols : List Int) : ∀ (ps : List Int) (f : List (List Int)) (r : List Int), r ∈ ps.foldl (stepA cols) f → ∃ a ∈ f, ∃ t, r = a ++ t ∧ validR cols ps t
  | [], f, r, h => ⟨r, h, [], by simp, rfl, fun i hi => absurd hi (by simp)⟩
  | p :: ps, f, r, h => by
    rw [List.foldl_cons] at h
    obtain ⟨a, ha, t, rfl, h1, h2⟩ := rows_of cols ps _ r h
    unfold stepA extR at ha
    obtain ⟨b, hb, ha⟩ := List.mem_flatMap.mp ha
    obtain ⟨v, hv, rfl⟩ := List.mem_map.mp ha
    have hv := mem_rgI hv
    refine ⟨b, hb, v :: t, by simp, by simp [h1], fun i hi => ?_⟩
    match i with
    | 0 => rw [atZ_cons0, atZ_cons0]; omega
    | i + 1 => rw [atZ_consS, atZ_consS]; exact h2 i (by simpa using hi)
theorem mem_allRows {cols places r : List Int} : r ∈ allRowsF cols places ↔ validR cols places r := by
  constructor
  · intro h
    obtain ⟨a, ha, t, rfl, h2⟩ := rows_of cols places _ r h
    rw [List.mem_singleton.mp ha, List.nil_append]; exact h2
  · intro h
    exact rows_in cols places [[]] [] r (by simp) h
theorem atZ_map (n : Nat) (f : Int → Int) (i : Nat) (h : i < n) : atZ ((rgI n).map f) i = f i := by
  unfold atZ rgI
  simp [List.getD_eq_getElem?_getD, h]
theorem setF_len (one other lot : List Int) : (setF one other lot).length = one.length := by unfold setF; rw [List.length_map, rgI_length]
theorem setF_at (one other lot : List Int) (i : Nat) (h : i < one.length) : atZ (setF one other lot) i = if lot.contains (i : Int) = true then atZ other i else atZ one i := by
  unfold setF
  rw [atZ_map _ _ _ h]
theorem setF_valid {cols places one other : List Int} (lot : List Int) (h1 : validR cols places one) (h2 : validR cols places other) : validR cols places (setF one other lot) := by
  refine ⟨by rw [setF_len]; exact h1.1, fun i hi => ?_⟩
  rw [setF_at _ _ _ _ (by rw [h1.1]; exact hi)]
  split
  · exact h2.2 i hi
  · exact h1.2 i hi
/-- a list of rows out of A, none more often than M times -/
theorem count_len {M : Nat} : ∀ (A l : List (List Int)), (∀ r ∈ l, r ∈ A) → (∀ r, l.count r ≤ M) → l.length ≤ A.length * M
  | [], l, h, _ => by
    cases l with
    | nil => simp
    | cons x l => exact absurd (h x (by simp)) (by simp)
  | a :: A, l, h, hc => by
    have h1 := count_len A (l.filter fun r => !(r == a)) (fun r hr => by
      obtain ⟨hr1, hr2⟩ := List.mem_filter.mp hr
      rcases List.mem_cons.mp (h r hr1) with h | h
      · subst h; simp at hr2
      · exact h) (fun r => Nat.le_trans (List.Sublist.count_le r (List.filter_sublist)) (hc r))
    have h2 := hc a
    have h3 : l.length = l.count a + (l.filter fun r => !(r == a)).length := by
      clear h hc h1 h2
      induction l with
      | nil => rfl
      | cons x l ih =>
        rw [List.length_cons, List.count_cons, List.filter_cons, ih]
        by_cases q : x = a
        · subst q; simp; omega
        · have : (x == a) = false := by simpa using q
          simp [this]; omega
    rw [List.length_cons, Nat.succ_mul]
    omega
end My

namespace My
open PySem PySem.Spec PyProof.Rows L2 DL
theorem intsL_map : ∀ ns : List Int, intsL (ns.map .int) = some ns
  | [] => rfl
  | n :: ns => by rw [List.map_cons, intsL, intsL_map ns]; rfl
theorem intsDs_map : ∀ ks : List (List Int), intsDs (ks.map eT) = some ks
  | [] => rfl
  | k :: ks => by
    have h : intsD (eT k) = some k := intsL_map k
    rw [List.map_cons, intsDs, h, intsDs_map ks]
theorem keysOk_of {ks : List (List Int)} {n : Nat} (hn : 1 ≤ n) (h : ∀ k ∈ ks, k.length = n ∧ ∀ m ∈ k, 0 ≤ m ∧ m < 1000) : keysOk ks = true := by
  unfold keysOk
  rw [List.all_eq_true]
  intro k hk
  obtain ⟨h1, h2⟩ := h k hk
  have hh : (ks.headD [0]).length = n := by
    cases ks with
    | nil => cases hk
    | cons x t => exact (h x (by simp)).1
  simp only [Bool.and_eq_true, decide_eq_true_eq, List.all_eq_true]
  exact ⟨⟨by omega, by omega⟩, h2⟩
theorem mem_ssL {k : List Int} {ks : List (List Int)} : k ∈ ssL ks ↔ k ∈ ks := by
  unfold ssL
  rw [List.mem_mergeSort]
  exact mem_ddp
/-- rows that are valid, none too often -/
def Fnd (cols places : List Int) (f : List (List Int)) : Prop := (∀ r ∈ f, validR cols places r) ∧ ∀ r, f.count r ≤ 448
theorem Fnd.len {cols places : List Int} {f : List (List Int)} (h : Fnd cols places f) (hv : ∀ c ∈ cols, 0 ≤ c ∧ c ≤ 3) (hp : ∀ p ∈ places, 0 ≤ p ∧ p < (cols.length : Int)) (h3 : places.length ≤ 3) : f.length ≤ 12096 := by
  have h1 := count_len (M := 448) (allRowsF cols places) f (fun r hr => mem_allRows.mpr (h.1 r hr)) h.2
  have h2 := foldA_len cols 3 hv places [[]] hp
  have h4 : 3 ^ places.length ≤ 3 ^ 3 := Nat.pow_le_pow_right (by omega) h3
  simp only [List.length_singleton, Nat.one_mul] at h2
  unfold allRowsF at h1
  have h5 : (places.foldl (stepA cols) [[]]).length ≤ 27 := by omega
  have h6 := Nat.mul_le_mul_right 448 h5
  omega
theorem Fnd.more {cols places : List Int} {f W : List (List Int)} (h : Fnd cols places f) (hW : ∀ r ∈ W, validR cols places r) (hl : W.length ≤ 448) : Fnd cols places (f ++ W.filter fun r => !f.contains r) := by
  refine ⟨fun r hr => ?_, fun r => ?_⟩
  · rcases List.mem_append.mp hr with q | q
    · exact h.1 r q
    · exact hW r (List.mem_filter.mp q).1
  · rw [List.count_append]
    by_cases q : r ∈ f
    · have : (W.filter fun r => !f.contains r).count r = 0 := List.count_eq_zero.mpr fun z => by
        have := (List.mem_filter.mp z).2
        simp [q] at this
      rw [this]; exact h.2 r
    · have h1 : f.count r = 0 := List.count_eq_zero.mpr q
      have h2 : (W.filter fun r => !f.contains r).count r ≤ (W.filter fun r => !f.contains r).length := List.count_le_length
      have h3 : (W.filter fun r => !f.contains r).length ≤ W.length := List.length_filter_le _ _
      omega
theorem line_of {n : Nat} (h : n ≤ 1000000) : n ≤ sizeLine := Nat.le_trans h (by decide)
end My

namespace My
open PySem PySem.Spec PyProof.Rows L2 DL
def okK (cols : List Int) (c : Chk) : Prop := 1 ≤ c.1.length ∧ c.1.length ≤ 3 ∧ (∀ p ∈ c.1, 0 ≤ p ∧ p < (cols.length : Int)) ∧ c.2.length ≤ 12096 ∧ ∀ r ∈ c.2, validR cols c.1 r
structure GoodB (cols : List Int) (checks : List Chk) : Prop where
  c1 : 1 ≤ cols.length
  c3 : cols.length ≤ 3
  cv : ∀ c ∈ cols, 1 ≤ c ∧ c ≤ 3
  k6 : checks.length ≤ 6
  kk : ∀ c ∈ checks, okK cols c
theorem kindsF_len (cols : List Int) (h1 : cols.length ≤ 4) (h2 : ∀ c ∈ cols, 0 ≤ c ∧ c ≤ 4) : (kindsF cols).length ≤ 64 := by
  have := fm_len (f := kindsC cols) (B := 16) (l := rgI cols.length) fun x hx2 => kindsC_len cols x (h2 _ (atZ_mem (mem_rgI hx2)))
  rw [rgI_length] at this
  unfold kindsF; omega
def rulesL : List Chk := [([0, 0], [[0, 0], [0, 1], [1, 0]]), ([0, 0], [[0, 1], [1, 0], [1, 1]]), ([0, 0], [[0, 0], [1, 1]]), ([0, 0], [[0, 0], [0, 1], [1, 1]]), ([0], [[0], [1]])]
end My

namespace My
open PySem PySem.Spec PyProof.Rows L2 DL
theorem p_is_integer (i : Int) : wpE m_is_integer [.sh (.int i)] (RD (.bl true)) NX := w_run (v_is_integer_int i) rfl
theorem p_is_number (i : Int) (h : 0 ≤ i) : wpE m_is_number [.sh (.int i)] (RD (.bl true)) NX := by
  apply w_runF
  · rfl
  · walk_at "ze"
  repeat walk_at "zs"
  walk_at "zk0d"
  · exact p_is_integer i
  repeat walk_at "zs"
  show Val.d _ = Val.d _
  rw [decide_eq_true h]
theorem p_is_below (i n : Int) (h : 0 ≤ i) (h2 : i < n) : wpE m_is_below [.sh (.int i), .sh (.int n)] (RD (.bl true)) NX := by
  apply w_runF
  · rfl
  · walk_at "ze"
  repeat walk_at "zs"
  walk_at "zk0d"
  · exact p_is_number i h
  repeat walk_at "zs"
  show Val.d _ = Val.d _
  rw [decide_eq_true h2]
theorem p_is_within (i a b : Int) (h : a ≤ i) (h2 : i ≤ b) : wpE m_is_within [.sh (.int i), .sh (.int a), .sh (.int b)] (RD (.bl true)) NX := by
  apply w_runF
  · rfl
  · walk_at "ze"
  repeat walk_at "zs"
  walk_at "zk0d"
  · exact p_is_integer i
  repeat walk_at "zs"
  refine ⟨_, _, rfl, rfl, fun _ => ?_, fun z => absurd h (of_decide_eq_false z)⟩
  repeat walk_at "zs"
  refine ⟨_, _, rfl, rfl, ?_⟩
  repeat walk_at "zs"
  show Val.d (.bl (decide (i ≤ b))) = _
  rw [decide_eq_true h2]
theorem p_is_seqT (xs : List D) : wpE m_is_sequence [.sh (.tup xs)] (RD (.bl true)) NX := by
  apply w_runF
  · rfl
  · walk_at "ze"
  repeat walk_at "zs"
  exact (rfl : Val.d _ = Val.d _)
theorem p_is_seqL (xs : List D) : wpE m_is_sequence [.sh (.lst xs)] (RD (.bl true)) NX := by
  apply w_runF
  · rfl
  · walk_at "ze"
  repeat walk_at "zs"
  exact (rfl : Val.d _ = Val.d _)
theorem p_check_columns (cols : List Int) (h1 : 1 ≤ cols.length) (h4 : cols.length ≤ 4) (hc : ∀ c ∈ cols, 1 ≤ c ∧ c ≤ 4) : wpE m_check_columns [.sh (eT cols)] (RD (eT cols)) NX := by
  apply w_runF
  · rfl
  · walk_at "ze"
  repeat walk_at "zs"
  walk_at "zk0d"
  · exact p_is_seqT _
  repeat walk_at "zs"
  refine ⟨_, _, rfl, rfl, fun _ => ?_, fun z => ?_⟩
  rotate_left
  · have := of_decide_eq_false z
    rw [List.length_map] at this
    omega
  repeat walk_at "zs"
  refine ⟨_, _, rfl, rfl, ?_⟩
  repeat walk_at "zs"
  refine br_nd (by rw [List.length_map]; omega) ?_
  repeat walk_at "zs"
  with_reducible apply c_map (enc := D.int) cols (fun _ => .bl true)
  walk_at "zc"
  · intro x hx
    have := hc x hx
    refine ⟨_, rfl, ?_⟩
    repeat walk_at "zs"
    walk_at "zk0d"
    · exact p_is_within x 1 4 this.1 this.2
    repeat walk_at "zs"
    exact ⟨rfl, by walk_at "ze"⟩
  repeat walk_at "zs"
  exact (rfl : Val.d _ = Val.d _)
theorem zip2_rg (a b : List Int) (hb : b.length = a.length) : zip2D (a.map .int) (b.map .int) = (rgI a.length).map fun i => eT [atZ a i, atZ b i] := by
  unfold zip2D rgI
  refine List.ext_getElem (by simp [hb]) fun i h1 h2 => ?_
  have h3 : i < a.length := by simpa using h2
  have h4 : i < b.length := by omega
  simp [atZ, List.getD_eq_getElem?_getD, List.getElem?_eq_getElem h3, List.getElem?_eq_getElem h4]
theorem p_is_values (r bounds : List Int) (hl : r.length = bounds.length) (h3 : r.length ≤ 1000) (h : ∀ i : Nat, i < r.length → 0 ≤ atZ r i ∧ atZ r i < atZ bounds i) : wpE m_is_values [.sh (eT r), .sh (eL bounds)] (RD (.bl true)) NX := by
  apply w_runF
  · rfl
  · walk_at "ze"
  repeat walk_at "zs"
  walk_at "zk0d"
  · exact p_is_seqT _
  repeat walk_at "zs"
  refine br_nd (by rw [List.length_map, List.length_map, hl]) ?_
  repeat walk_at "zs"
  with_reducible apply c_map (enc := fun i => eT [atZ r i, atZ bounds i]) (rgI r.length) (fun _ => .bl true)
  · exact zip2_rg r bounds hl.symm
  · walk_at "ze"
  · walk_at "ze"
  · walk_at "zn"
  · intro i hi
    obtain ⟨k, hk, rfl⟩ := List.mem_map.mp hi
    have := h k (List.mem_range.mp hk)
    refine ⟨_, rfl, ?_⟩
    repeat walk_at "zs"
    walk_at "zk0d"
    · exact p_is_below _ _ this.1 this.2
    repeat walk_at "zs"
    exact ⟨rfl, by walk_at "ze"⟩
  repeat walk_at "zs"
  exact (rfl : Val.d _ = Val.d _)
end My

namespace DL
open PySem PySem.Spec PyProof.Rows L2
theorem w_makeB {c : Str} {F : M Val} {dfl : List D} {vs : List Val} {e : Env} {Q : Val → Env → Prop} {X : XQ} (P : O → Prop) (hv : vs.all noAt = true) (hF : wpE F (.ow (.ins c [] []) :: (vs.map (argS e) ++ dfl.map SV.sh)) (fun v a => v = .d .non ∧ ∃ o, a[0]? = some (.ow o) ∧ P o) NX) (k : ∀ o, P o → Q (.new o) e) : wpE (makeV c F dfl vs) e Q X := by
  have hvm : ∀ v ∈ vs, noAt v = true := List.all_eq_true.mp hv
  have ha : vs.map (argS (e ++ [.ow (.ins c [] [])])) = vs.map (argS e) := List.map_congr_left fun v h => by
    have := hvm v h
    cases v with
    | at_ i => cases this
    | d x => rfl
    | new o => rfl
  have hany : ∀ i, (vs.any (isAt i)) = false := fun i => by
    rw [List.any_eq_false]
    intro v h
    have := hvm v h
    cases v with
    | at_ i => cases this
    | d x => simp [isAt]
    | new o => simp [isAt]
  have hnd : ∀ us : List Val, us.all noAt = true → nodupAt us = true := by
    intro us
    induction us with
    | nil => intro _; rfl
    | cons u us ih =>
      intro h
      rw [List.all_cons, Bool.and_eq_true] at h
      cases u with
      | at_ i => cases h.1
      | d x => exact ih h.2
      | new o => exact ih h.2
  refine w_makeV (callV_eq (P := fun v a => v = .d .non ∧ ∃ o, a[0]? = some (.ow o) ∧ P o) (Y := NX) ?_ ?_ ?_ fun _ _ h => h.elim)
  · show (!(vs.any (isAt e.length)) && nodupAt vs) = true
    rw [hany, hnd vs hv]; rfl
  · rw [List.map_cons, List.cons_append, ha]
    have : argS (e ++ [SV.ow (.ins c [] [])]) (.at_ e.length) = .ow (.ins c [] []) := by simp [argS]
    rw [this]
    exact hF
  · rintro v a ⟨rfl, o, h0, hP⟩
    refine ⟨rfl, rfl, o, ?_, ?_⟩
    · rw [backS_one (i := e.length) (p := 0) (o := .ins c [] []) ?_ (by simp)]
      · simp [h0]
      · simp only [oneAt, List.getD_cons_zero, List.eraseIdx_zero, List.tail_cons, hv, isAt, List.length_cons]
        simp
    · rw [backS_one (i := e.length) (p := 0) (o := .ins c [] []) ?_ (by simp)]
      · rw [h0]
        have : ((e ++ [SV.ow (.ins c [] [])]).set e.length ((some (SV.ow o)).getD .no)).take e.length = e := by simp
        rw [this]
        exact k o hP
      · simp only [oneAt, List.getD_cons_zero, List.eraseIdx_zero, List.tail_cons, hv, isAt, List.length_cons]
        simp
end DL
namespace My
open PySem PySem.Spec PyProof.Rows L2 DL
def prT (k : List Int) : D × D := (eT k, .bl true)
def ddS (acc : List (List Int)) (k : List Int) : List (List Int) := if acc.contains k = true then acc else acc ++ [k]
def ddR (ks : List (List Int)) : List (List Int) := ks.foldl ddS []
theorem keysD_ints : ∀ k : List Int, keysD (k.map .int) = some (k.map Sum.inl)
  | [] => rfl
  | x :: k => by rw [List.map_cons, keysD, keysD_ints k]; rfl
theorem tkey_eT (k : List Int) : tkeyD (eT k) = some (k.map Sum.inl) := keysD_ints k
theorem tkey_inj {a b : List Int} : tkeyD (eT a) = tkeyD (eT b) ↔ a = b := by
  rw [tkey_eT, tkey_eT]
  constructor
  · intro h
    injection h with h
    exact (List.map_inj_right (fun x y z => by injection z)).mp h
  · intro h; rw [h]
theorem put_dd (acc : List (List Int)) (k : List Int) : putD true (acc.map prT) (eT k) (.bl true) = (ddS acc k).map prT := by
  show DL.putF tkeyD (acc.map prT) (eT k) (.bl true) = _
  have ha : ((acc.map prT).any fun p => decide (tkeyD p.1 = tkeyD (eT k))) = acc.contains k := by
    rw [Bool.eq_iff_iff, List.any_eq_true, List.contains_iff_mem]
    constructor
    · rintro ⟨p, hp, h⟩
      obtain ⟨a, ha, rfl⟩ := List.mem_map.mp hp
      rw [← tkey_inj.mp (of_decide_eq_true h)]; exact ha
    · intro h
      exact ⟨prT k, List.mem_map.mpr ⟨k, h, rfl⟩, decide_eq_true rfl⟩
  unfold DL.putF ddS
  rw [ha]
  by_cases h : acc.contains k = true
  · rw [if_pos h, if_pos h, List.map_map]
    refine List.map_congr_left fun a _ => ?_
    show (if tkeyD (eT a) = tkeyD (eT k) then ((eT a, D.bl true) : D × D) else (eT a, D.bl true)) = (eT a, D.bl true)
    by_cases q : tkeyD (eT a) = tkeyD (eT k)
    · rw [if_pos q]
    · rw [if_neg q]
  · rw [if_neg h, if_neg h, List.map_append]; rfl
theorem mem_ddS {acc : List (List Int)} {k r : List Int} : r ∈ ddS acc k ↔ r ∈ acc ∨ r = k := by
  unfold ddS
  split
  · rename_i h
    constructor
    · exact .inl
    · rintro (h2 | rfl)
      · exact h2
      · simpa using h
  · simp
theorem mem_ddF : ∀ (ks acc : List (List Int)) (r : List Int), r ∈ ks.foldl ddS acc ↔ r ∈ acc ∨ r ∈ ks
  | [], acc, r => by simp
  | k :: ks, acc, r => by rw [List.foldl_cons, mem_ddF ks, mem_ddS]; simp [or_assoc]
theorem mem_ddR {ks : List (List Int)} {r : List Int} : r ∈ ddR ks ↔ r ∈ ks := by unfold ddR; rw [mem_ddF]; simp
theorem ddF_len : ∀ (ks acc : List (List Int)), (ks.foldl ddS acc).length ≤ acc.length + ks.length
  | [], acc => by simp
  | k :: ks, acc => by
    rw [List.foldl_cons, List.length_cons]
    have h := ddF_len ks (ddS acc k)
    have h2 : (ddS acc k).length ≤ acc.length + 1 := by unfold ddS; split <;> simp
    omega
def toldC (c : Chk) : Chk := (c.1, sortT (ddR c.2))
theorem mem_toldC {c : Chk} {r : List Int} : r ∈ (toldC c).2 ↔ r ∈ c.2 := by unfold toldC; rw [mem_sortT, mem_ddR]
abbrev bookO (cols : List Int) (checks : List Chk) : O := .ins "Book" ["columns", "checks"] [eT cols, .tup (checks.map eC)]
end My

namespace DL
open PySem PySem.Spec PyProof.Rows L2
theorem w_isN {e : Env} {X : XQ} {Q : Val → Env → Prop} {v u : Val} {a : D} (h1 : vwD e v = some a) (h2 : vwD e u = some .non) (k : Q (.d (.bl (isN a))) e) : wpE (isV v u) e Q X := w_boolV h1 h2 rfl k
end DL
namespace My
open PySem PySem.Spec PyProof.Rows L2 DL
theorem enum_rgI (xs : List Int) : enumD (xs.map .int) = (rgI xs.length).map fun i => eT [i, atZ xs i] := enum_rg (γ := Int) D.int xs
theorem p_kinds_of (cols : List Int) (checks : List Chk) (h1 : cols.length ≤ 4) (h2 : ∀ c ∈ cols, 0 ≤ c ∧ c ≤ 4) :
    wpE m_kinds_of [.ow (bookO cols checks)] (RDs [.ow (bookO cols checks)] (eTs (kindsF cols))) NX := by
  have hc : ∀ i, 0 ≤ i ∧ i < (cols.length : Int) → 0 ≤ atZ cols i ∧ atZ cols i ≤ 4 := fun i hi => h2 _ (atZ_mem hi)
  apply w_runF
  · rfl
  · walk_at "ze"
  repeat walk_at "zs"
  rw [enum_rgI]
  with_reducible apply f_loop (enc := fun i => eT [i, atZ cols i]) (fun pre e => ∃ g2 g3 g4, e = [.ow (bookO cols checks), .ow (.lst ((pre.flatMap (kindsC cols)).map eT)), g2, g3, g4, .no]) (rgI cols.length)
  walk_at "zci"
  · exact ⟨_, _, _, rfl⟩
  · rintro pre c post _ hx ⟨g2, g3, g4, rfl⟩
    have hi : 0 ≤ c ∧ c < (cols.length : Int) := mem_rgI (by rw [hx]; simp)
    obtain ⟨hv0, hv4⟩ := hc c hi
    have hpre : pre.length ≤ 4 := by have := congrArg List.length hx; rw [rgI_length, List.length_append] at this; omega
    have hlen := fm_len (f := kindsC cols) (B := 16) (l := pre) fun x hx2 => kindsC_len cols x (hc x (mem_rgI (by rw [hx]; simp [hx2])))
    have hz : atZ cols c = ((atZ cols c).toNat : Int) := (Int.toNat_of_nonneg hv0).symm
    refine ⟨_, rfl, ?_⟩
    repeat walk_at "zs"
    with_reducible apply w_rng1
    · exact hz
    · omega
    with_reducible apply f_loop (enc := D.int) (fun pre2 e => ∃ g4, e = [.ow (bookO cols checks), .ow (.lst ((pre.flatMap (kindsC cols) ++ pre2.flatMap (kindsO cols c)).map eT)), .sh (.int c), .sh (.int (atZ cols c)), g4, .no]) (rgI (atZ cols c).toNat)
    walk_at "zci"
    · exact ⟨_, by rw [List.flatMap_nil, List.append_nil]⟩
    · rintro pre2 o post2 _ hx2 ⟨g4, rfl⟩
      have hpre2 : pre2.length ≤ 4 := by have := congrArg List.length hx2; rw [rgI_length, List.length_append] at this; omega
      have hlen2 := fm_len (f := kindsO cols c) (B := 4) (l := pre2) fun x _ => kindsO_len cols c x hv4
      have hlen3 := kindsO_len cols c o hv4
      refine ⟨_, rfl, ?_⟩
      repeat walk_at "zs"
      with_reducible apply w_rng1
      · exact hz
      · omega
      with_reducible apply c_pure (enc := D.int) (rgI (atZ cols c).toNat) (fun n => !decide (n = o)) (fun n => eT [c, o, n])
      walk_at "zc"
      · intro n hn
        refine ⟨_, rfl, ?_⟩
        repeat walk_at "zs"
        walk_at "zpf"
      have hl4 : (List.map (fun n => eT [c, o, n]) (List.filter (fun n => !decide (n = o)) (rgI (atZ cols c).toNat))).length ≤ 4 := by rw [List.length_map]; unfold kindsO at hlen3; rw [List.length_map] at hlen3; exact hlen3
      repeat walk_at "zs"
      with_reducible apply w_ext
      · rfl
      · refine len_line ?_
        rw [List.length_map, List.length_append]; omega
      · walk_at "ze"
      repeat walk_at "zs"
      refine ⟨.sh (.int o), ?_⟩
      rw [List.flatMap_append, ← List.append_assoc, List.flatMap_cons, List.flatMap_nil, List.append_nil, List.map_append (l₂ := kindsO cols c o)]
      unfold kindsO
      rw [List.map_map]
      rfl
    · rintro _ ⟨g4, rfl⟩
      refine ⟨.sh (.int c), .sh (.int (atZ cols c)), g4, ?_⟩
      walk_at "zg"
      rw [List.flatMap_append, List.flatMap_cons, List.flatMap_nil, List.append_nil]
      rfl
  · rintro _ ⟨g2, g3, g4, rfl⟩
    walk_at "zg"
    repeat walk_at "zs"
    exact ⟨rfl, rfl⟩
theorem p_told_kinds (cols : List Int) (checks : List Chk) (h1 : cols.length ≤ 4) (h2 : ∀ c ∈ cols, 0 ≤ c ∧ c ≤ 4) :
    wpE m_told_kinds [.ow (bookO cols checks), .sh .non] (RDs [.ow (bookO cols checks), .sh .non] (eTs (kindsF cols))) NX := by
  apply w_runF
  · rfl
  · walk_at "ze"
  repeat walk_at "zs"
  with_reducible apply w_isN
  · rfl
  · rfl
  repeat walk_at "zs"
  refine br_of (c := true) rfl (br_t ?_)
  repeat walk_at "zs"
  walk_at "zkSd"
  · exact p_kinds_of cols checks h1 h2
  repeat walk_at "zs"
  exact ⟨rfl, rfl⟩
theorem foldL_head (ps : List Int) : ∀ f : List (List Int), f.head? = some [] → (ps.foldl stepL f).head? = some [] := by
  induction ps with
  | nil => exact fun f h => h
  | cons p ps ih =>
    intro f h
    rw [List.foldl_cons]
    refine ih _ ?_
    unfold stepL
    cases f with
    | nil => cases h
    | cons x f => exact h
theorem foldL_subs (ps : List Int) : ps.foldl stepL [[]] = [] :: subsL ps := by
  have h := foldL_head ps [[]] rfl
  unfold subsL
  generalize ps.foldl stepL [[]] = F at h
  cases F with
  | nil => cases h
  | cons x F => cases h; rfl
theorem sort_subs (ps : List Int) : (sortT (ps.foldl stepL [[]])).tail = sortT (subsL ps) := by
  have h : sortT (ps.foldl stepL [[]]) = [] :: sortT (subsL ps) := by
    refine sorted_unique ?_ (sortT_sorted _) ?_
    · rw [foldL_subs]
      exact (sortT_perm _).trans ((sortT_perm _).symm.cons _)
    · rw [List.pairwise_cons]
      exact ⟨fun a _ => by unfold leT; exact decide_eq_true (by simp), sortT_sorted _⟩
  rw [h]; rfl
theorem p_lots_set (ps : List Int) (h : ps.length ≤ 6) : wpE m_lots_set [.sh (eT ps)] (RN (.lst ((sortT (subsL ps)).map eT))) NX := by
  have hp : ∀ pre post : List Int, ps = pre ++ post → (pre.foldl stepL [[]]).length ≤ 64 ∧ ∀ l ∈ pre.foldl stepL [[]], l.length ≤ 6 := by
    intro pre post hx
    have hle : pre.length ≤ 6 := by rw [hx, List.length_append] at h; omega
    refine ⟨?_, fun l hl => ?_⟩
    · rw [foldL_len]
      have : 2 ^ pre.length ≤ 2 ^ 6 := Nat.pow_le_pow_right (by omega) hle
      simpa using this
    · have := foldL_item pre [[]] 0 (by simp) l hl
      omega
  apply w_runF
  · rfl
  · walk_at "ze"
  repeat walk_at "zs"
  with_reducible apply f_loop (enc := D.int) (fun pre e => ∃ g, e = [.sh (eT ps), .ow (.lst ((pre.foldl stepL [[]]).map eT)), g, .no]) ps
  walk_at "zci"
  · exact ⟨_, rfl⟩
  · rintro pre x post _ hx ⟨g, rfl⟩
    obtain ⟨hp1, hp2⟩ := hp pre (x :: post) hx
    refine ⟨_, rfl, ?_⟩
    repeat walk_at "zs"
    with_reducible apply c_map (enc := eT) (pre.foldl stepL [[]]) (fun l => eT (l ++ [x]))
    walk_at "zc"
    · intro l hl
      have := hp2 l hl
      refine ⟨_, rfl, ?_⟩
      repeat walk_at "zs"
      with_reducible apply w_addT
      · rfl
      · rfl
      · walk_at "zn"
      repeat walk_at "zs"
      exact ⟨eT_snoc l x, by walk_at "ze"⟩
    repeat walk_at "zs"
    refine ⟨.sh (.int x), ?_⟩
    rw [List.foldl_append, List.foldl_cons, List.foldl_nil]
    show _ = [_, SV.ow (O.lst ((stepL _ x).map eT)), _, _]
    unfold stepL
    rw [List.map_append, List.map_map]
    rfl
  · rintro _ ⟨g, rfl⟩
    walk_at "zg"
    repeat walk_at "zs"
    with_reducible apply w_sortT
    · rfl
    · exact .inr ⟨subsL ps, foldL_subs ps⟩
    repeat walk_at "zs"
    show Val.new _ = Val.new _
    rw [← List.map_tail, sort_subs]
theorem p_row_set (one other lot : List Int) (h : other.length = one.length) (h2 : one.length ≤ 1000) : wpE m_row_set [.sh (eT one), .sh (eT other), .sh (eT lot)] (RD (eT (setF one other lot))) NX := by
  apply w_runF
  · rfl
  · walk_at "ze"
  repeat walk_at "zs"
  rw [enum_rgI]
  with_reducible apply c_map (enc := fun i => eT [i, atZ one i]) (rgI one.length) (fun i => .int (if lot.contains i = true then atZ other i else atZ one i))
  walk_at "zc"
  · intro i hi
    have hi := mem_rgI hi
    refine ⟨_, rfl, ?_⟩
    repeat walk_at "zs"
    refine ⟨fun hb => ?_, fun hb => ?_⟩
    · repeat walk_at "zs"
      rw [if_pos hb]
      exact ⟨rfl, by walk_at "ze"⟩
    · repeat walk_at "zs"
      rw [if_neg (by rw [hb]; decide)]
      exact ⟨rfl, by walk_at "ze"⟩
  repeat walk_at "zs"
  show Val.d _ = Val.d _
  unfold setF
  rw [show eT ((rgI one.length).map fun i => if lot.contains i = true then atZ other i else atZ one i) = .tup ((rgI one.length).map fun i => .int (if lot.contains i = true then atZ other i else atZ one i)) by show D.tup _ = _; rw [List.map_map]; rfl]
theorem p_places_of (places one other kind : List Int) (h1 : one.length = places.length) (h2 : other.length = places.length) (h3 : places.length ≤ 1000) : wpE m_places_of [.sh (eT places), .sh (eT one), .sh (eT other), .sh (eT kind)] (RD (eT (atF places one other kind))) NX := by
  apply w_runF
  · rfl
  · walk_at "ze"
  repeat walk_at "zs"
  rw [enum_rgI]
  with_reducible apply f_loop (enc := fun i => eT [i, atZ places i]) (fun pre e => ∃ g5 g6, e = [.sh (eT places), .sh (eT one), .sh (eT other), .sh (eT kind), .ow (.lst ((pre.filter fun i => decide ([atZ places i, atZ one i, atZ other i] = kind)).map .int)), g5, g6]) (rgI places.length)
  walk_at "zci"
  · exact ⟨_, _, rfl⟩
  · rintro pre i post _ hx ⟨g5, g6, rfl⟩
    have hi := mem_rgI (i := i) (n := places.length) (by rw [hx]; simp)
    have hpl : (pre.filter fun i => decide ([atZ places i, atZ one i, atZ other i] = kind)).length ≤ 1000 := by
      have h4 := congrArg List.length hx
      rw [rgI_length, List.length_append] at h4
      have := List.length_filter_le (fun i => decide ([atZ places i, atZ one i, atZ other i] = kind)) pre
      omega
    refine ⟨_, rfl, ?_⟩
    repeat walk_at "zs"
    refine ⟨fun hb => ?_, fun hb => ?_⟩
    · repeat walk_at "zs"
      refine ⟨.sh (.int i), .sh (.int (atZ places i)), ?_⟩
      · rw [List.filter_append, List.filter_cons, if_pos hb, List.filter_nil, List.map_append]; rfl
    · repeat walk_at "zs"
      refine ⟨.sh (.int i), .sh (.int (atZ places i)), ?_⟩
      · rw [List.filter_append, List.filter_cons, if_neg (by rw [hb]; decide), List.filter_nil, List.append_nil]; rfl
  · rintro _ ⟨g5, g6, rfl⟩
    walk_at "zg"
    repeat walk_at "zs"
    exact (rfl : Val.d _ = Val.d _)
end My

namespace My
open PySem PySem.Spec PyProof.Rows L2 DL
def barF (c : Chk) (one other kind : List Int) : List (List Int) := (sortT (subsL (atF c.1 one other kind))).filter fun lot => !c.2.contains (setF one other lot)
theorem subsL_len (ps : List Int) (h : ps.length ≤ 3) : (subsL ps).length ≤ 7 := by
  unfold subsL
  rw [List.length_drop, foldL_len]
  have : 2 ^ ps.length ≤ 2 ^ 3 := Nat.pow_le_pow_right (by omega) h
  simp; omega
theorem atI_chk {checks : List Chk} {k : Nat} {c : Chk} (h : checks[k]? = some c) : atI (checks.map eC) (k : Int) = some (eC c) := by
  have h2 := (List.getElem?_eq_some_iff.mp h).1
  rw [atI_of (by omega) (by rw [List.length_map]; omega), List.getElem?_map]
  simp [h]
theorem p_barred (cols : List Int) (checks : List Chk) (k : Nat) (c : Chk) (one other kind : List Int) (hk : checks[k]? = some c) (h1 : one.length = c.1.length) (h2 : other.length = c.1.length) (h3 : c.1.length ≤ 3) :
    wpE m_barred_lots [.ow (bookO cols checks), .sh (.int k), .sh (eT one), .sh (eT other), .sh (eT kind)] (RNs [.ow (bookO cols checks), .sh (.int k), .sh (eT one), .sh (eT other), .sh (eT kind)] (.lst ((barF c one other kind).map eT))) NX := by
  apply w_runF
  · rfl
  · walk_at "ze"
  repeat walk_at "zs"
  with_reducible apply w_ix
  · rfl
  · rfl
  · rfl
  · exact atI_chk hk
  repeat walk_at "zs"
  refine ⟨_, rfl, ?_⟩
  repeat walk_at "zs"
  walk_at "zk0d"
  · exact p_places_of c.1 one other kind h1 h2 (by omega)
  repeat walk_at "zs"
  have hal := atF_len c.1 one other kind
  have hsl := subsL_len (atF c.1 one other kind) (by omega)
  walk_at "zk0n"
  · exact p_lots_set (atF c.1 one other kind) (by omega)
  repeat walk_at "zs"
  with_reducible apply c_pure (enc := eT) (sortT (subsL (atF c.1 one other kind))) (fun lot => !c.2.contains (setF one other lot)) eT
  · rfl
  · walk_at "ze"
  · walk_at "ze"
  · rw [(sortT_perm _).length_eq]; walk_at "zn"
  · intro lot hl
    refine ⟨_, rfl, ?_⟩
    repeat walk_at "zs"
    walk_at "zk0d"
    · exact p_row_set one other lot (by omega) (by omega)
    repeat walk_at "zs"
    walk_at "zpf"
  repeat walk_at "zs"
  exact ⟨rfl, rfl⟩
def pairOk (c : Chk) (left : List (List Int)) (one other : List Int) : Bool := !decide (one = other) && ((rgI c.1.length).filter fun i => !decide (atZ one i = atZ other i)).all fun i => (ddR left).contains [atZ c.1 i, atZ one i, atZ other i]
def pairsF (c : Chk) (left : List (List Int)) : List (List Int × List Int) := c.2.flatMap fun one => (c.2.filter (pairOk c left one)).map fun other => (one, other)
abbrev eP (p : List Int × List Int) : D := .tup [eT p.1, eT p.2]
theorem pairOk_iff {c : Chk} {left : List (List Int)} {one other : List Int} : pairOk c left one other = true ↔ one ≠ other ∧ ∀ k ∈ unlikeF c.1 one other, k ∈ left := by
  unfold pairOk unlikeF
  simp only [Bool.and_eq_true, Bool.not_eq_true', decide_eq_false_iff_not, List.all_eq_true, List.contains_iff_mem, mem_ddR]
  constructor
  · rintro ⟨h1, h2⟩
    refine ⟨h1, fun k hk => ?_⟩
    obtain ⟨i, hi, rfl⟩ := List.mem_map.mp hk
    exact h2 i hi
  · rintro ⟨h1, h2⟩
    exact ⟨h1, fun i hi => h2 _ (List.mem_map.mpr ⟨i, hi, rfl⟩)⟩
theorem hasKey_pr (ks : List (List Int)) (k : List Int) : hasKey true (ks.map prT) (eT k) = ks.contains k := by
  show ((ks.map prT).any fun p => decide (tkeyD p.1 = tkeyD (eT k))) = ks.contains k
  rw [Bool.eq_iff_iff, List.any_eq_true, List.contains_iff_mem]
  constructor
  · rintro ⟨p, hp, h⟩
    obtain ⟨a, ha, rfl⟩ := List.mem_map.mp hp
    rw [← tkey_inj.mp (of_decide_eq_true h)]; exact ha
  · intro h
    exact ⟨prT k, List.mem_map.mpr ⟨k, h, rfl⟩, decide_eq_true rfl⟩
theorem w_zipL3R {e : DL.Env} {X : XQ} {Q : Val → DL.Env → Prop} {a b c : List Int} (hb : b.length = a.length) (hc : c.length = a.length) (k : Q (.new (.lst ((rgI a.length).map fun i => eT [atZ a i, atZ b i, atZ c i]))) e) : wpE (zipL3 [eT a, eT b, eT c]) e Q X :=
  w_zipL3 rfl rfl rfl (by show Q (.new (.lst (zip3D (a.map .int) (b.map .int) (c.map .int)))) e; rw [zip3_rg a b c hb hc]; exact k)
local macro_rules | `(tactic| walk_at "zs") => `(tactic| ((with_reducible apply My.w_zipL3R); (focus assumption); (focus assumption)))
theorem p_unlike (cols : List Int) (checks : List Chk) (k : Nat) (c : Chk) (left : List (List Int)) (hk : checks[k]? = some c) (hr : ∀ r ∈ c.2, r.length = c.1.length) (h3 : c.1.length ≤ 3) (hl : left.length ≤ 1000) (hrows : c.2.length ≤ 4000) :
    wpE m_unlike_pairs [.ow (bookO cols checks), .sh (.int k), .ow (.lst (left.map eT))] (RNs [.ow (bookO cols checks), .sh (.int k), .ow (.lst (left.map eT))] (.lst ((pairsF c left).map eP))) NX := by
  apply w_runF
  · rfl
  · walk_at "ze"
  repeat walk_at "zs"
  with_reducible apply w_ix
  · rfl
  · rfl
  · rfl
  · exact atI_chk hk
  repeat walk_at "zs"
  refine ⟨_, rfl, ?_⟩
  repeat walk_at "zs"
  with_reducible apply d_inv (enc := eT) (fun pre acc e => acc = (ddR pre).map prT ∧ e = [.ow (bookO cols checks), .sh (.int k), .lk (.lst (left.map eT)), .sh (eT c.1), .sh (eTs c.2), .no, .no, .no, .no, .no, .no, .no]) left
  walk_at "zci"
  · exact ⟨rfl, rfl⟩
  · rintro pre r post acc _ hx ⟨rfl, rfl⟩
    have hdl : (ddR pre).length ≤ 1000 := by
      have := ddF_len pre []
      unfold ddR
      have h2 := congrArg List.length hx
      rw [List.length_append] at h2
      simp at this
      omega
    refine ⟨_, rfl, ?_⟩
    repeat walk_at "zs"
    refine ⟨?_, by walk_at "zl", ?_, by walk_at "ze"⟩
    · show (tkeyD (eT r)).isSome = true
      rw [tkey_eT]; rfl
    · show putD true ((ddR pre).map prT) (eT r) (.bl true) = _
      rw [put_dd]
      unfold ddR
      rw [List.foldl_append]; rfl
  rintro _ _ ⟨rfl, rfl⟩
  walk_at "zg"
  repeat walk_at "zs"
  with_reducible apply f_loop (enc := eT) (fun pre e => ∃ g7 g8 g9, e = [.ow (bookO cols checks), .sh (.int k), .ow (.lst (left.map eT)), .sh (eT c.1), .sh (eTs c.2), .ow (.dct true ((ddR left).map prT)), .ow (.lst ((pre.flatMap fun one => (c.2.filter (pairOk c left one)).map fun other => (one, other)).map eP)), g7, g8, g9, .no, .no]) c.2
  walk_at "zci"
  · exact ⟨_, _, _, rfl⟩
  · rintro pre one post _ hx ⟨g7, g8, g9, rfl⟩
    have hone := hr one (by rw [hx]; simp)
    have hpl : pre.length < c.2.length := by have := congrArg List.length hx; rw [List.length_append, List.length_cons] at this; omega
    have hfl := fm_len (B := c.2.length) (f := fun one => (c.2.filter (pairOk c left one)).map fun other => (one, other)) (l := pre) fun x _ => by rw [List.length_map]; exact List.length_filter_le _ _
    have hfl2 : (pre.flatMap fun one => (c.2.filter (pairOk c left one)).map fun other => (one, other)).length ≤ 15996000 := Nat.le_trans hfl (Nat.le_trans (Nat.mul_le_mul (show pre.length ≤ 3999 by omega) hrows) (by decide))
    clear hfl
    refine ⟨_, rfl, ?_⟩
    repeat walk_at "zs"
    with_reducible apply f_loop (enc := eT) (fun pre2 e => ∃ g8 g9, e = [.ow (bookO cols checks), .sh (.int k), .ow (.lst (left.map eT)), .sh (eT c.1), .sh (eTs c.2), .ow (.dct true ((ddR left).map prT)), .ow (.lst (((pre.flatMap fun one => (c.2.filter (pairOk c left one)).map fun other => (one, other)) ++ (pre2.filter (pairOk c left one)).map fun other => (one, other)).map eP)), .sh (eT one), g8, g9, .no, .no]) c.2
    walk_at "zci"
    · refine ⟨g8, g9, ?_⟩
      rw [List.filter_nil, List.map_nil, List.append_nil]
    · rintro pre2 other post2 _ hx2 ⟨g8, g9, rfl⟩
      have hother := hr other (by rw [hx2]; simp)
      have hpl2 : (pre2.filter (pairOk c left one)).length ≤ 4000 := by
        have := congrArg List.length hx2
        rw [List.length_append, List.length_cons] at this
        have := List.length_filter_le (pairOk c left one) pre2
        omega
      refine ⟨_, rfl, ?_⟩
      repeat walk_at "zs"
      refine ⟨fun hb => ?_, fun hb => ?_⟩
      · have hne : one ≠ other := by simpa using hb
        repeat walk_at "zs"
        with_reducible apply c_pure (enc := fun i => eT [atZ c.1 i, atZ one i, atZ other i]) (rgI c.1.length) (fun i => !decide (atZ one i = atZ other i)) (fun i => .bl ((ddR left).contains [atZ c.1 i, atZ one i, atZ other i]))
        · rfl
        · walk_at "ze"
        · walk_at "ze"
        · walk_at "zn"
        · intro i hi
          refine ⟨_, rfl, ?_⟩
          repeat walk_at "zs"
          refine ⟨rfl, fun hb => ?_, fun _ => by walk_at "ze"⟩
          repeat walk_at "zs"
          with_reducible apply w_inK
          · rfl
          · show (tkeyD (eT [atZ c.1 i, atZ one i, atZ other i])).isSome = true
            rw [tkey_eT]; rfl
          rw [show hasKey true ((ddR left).map prT) (D.tup (List.map D.int [atZ c.1 i, atZ one i, atZ other i])) = _ from hasKey_pr (ddR left) [atZ c.1 i, atZ one i, atZ other i]]
          repeat walk_at "zs"
          exact ⟨rfl, by walk_at "ze"⟩
        repeat walk_at "zs"
        refine ⟨fun hb2 => ?_, fun hb2 => ?_⟩
        · have hpo : pairOk c left one other = true := by
            unfold pairOk
            rw [hb2, decide_eq_false hne]; rfl
          repeat walk_at "zs"
          with_reducible apply w_app
          · rfl
          · rw [List.length_map, List.length_append, List.length_map]
            exact Nat.lt_of_le_of_lt (Nat.add_le_add hfl2 hpl2) (by decide)
          · walk_at "ze"
          repeat walk_at "zs"
          have e1 : (pre2 ++ [other]).filter (pairOk c left one) = pre2.filter (pairOk c left one) ++ [other] := by rw [List.filter_append, List.filter_cons, if_pos hpo, List.filter_nil]
          rw [e1, List.map_append (l₂ := [other]), ← List.append_assoc, List.map_append (l₂ := List.map _ [other])]
          exact ⟨_, _, rfl⟩
        · have hpo : pairOk c left one other = false := by
            unfold pairOk
            rw [hb2, Bool.and_false]
          have e1 : (pre2 ++ [other]).filter (pairOk c left one) = pre2.filter (pairOk c left one) := by rw [List.filter_append, List.filter_cons, if_neg (by rw [hpo]; decide), List.filter_nil, List.append_nil]
          rw [e1]
          repeat walk_at "zs"
          exact ⟨_, _, rfl⟩
      · have hne : one = other := by simpa using hb
        have hpo : pairOk c left one other = false := by
          unfold pairOk
          rw [decide_eq_true hne]; rfl
        have e1 : (pre2 ++ [other]).filter (pairOk c left one) = pre2.filter (pairOk c left one) := by rw [List.filter_append, List.filter_cons, if_neg (by rw [hpo]; decide), List.filter_nil, List.append_nil]
        rw [e1]
        repeat walk_at "zs"
        exact ⟨_, _, rfl⟩
    · rintro _ ⟨g8, g9, rfl⟩
      walk_at "zg"
      refine ⟨.sh (eT one), g8, g9, ?_⟩
      rw [List.flatMap_append, List.flatMap_cons, List.flatMap_nil, List.append_nil]
  · rintro _ ⟨g7, g8, g9, rfl⟩
    walk_at "zg"
    repeat walk_at "zs"
    exact ⟨rfl, rfl⟩
end My

namespace DL
open PySem PySem.Spec PyProof.Rows L2
def backL (vs : List Val) (a : Env) : Nat → Env → Env
  | _, [] => []
  | k, s :: t => (match posOf vs k with
    | some p => if isOw s = true then (a[p]?).getD .no else s
    | none => s) :: backL vs a (k + 1) t
theorem backL_eq (vs : List Val) (a : Env) : ∀ (e : Env) (k : Nat), e.mapIdx (fun i s => if isOw s = true then (match posOf vs (k + i) with
    | some p => (a[p]?).getD .no
    | none => s) else s) = backL vs a k e
  | [], k => rfl
  | s :: t, k => by
    rw [List.mapIdx_cons, backL, ← backL_eq vs a t (k + 1)]
    congr 1
    · rw [Nat.add_zero]
      cases posOf vs k with
      | none => simp
      | some p => rfl
    · congr 1
      funext i s
      rw [show k + (i + 1) = k + 1 + i by omega]
theorem backS_L (vs : List Val) (a e : Env) : backS vs a e = backL vs a 0 e := by
  rw [← backL_eq]
  unfold backS
  simp only [Nat.zero_add]
  first | done | rfl
theorem w_callB {F : M Val} {dfl : List D} {vs : List Val} {P : Val → Env → Prop} {e : Env} {X : XQ} {Q : Val → Env → Prop} (hn : nodupAt vs = true) (hF : wpE F (vs.map (argS e) ++ dfl.map SV.sh) P NX) (k : ∀ v a, P v a → noAt v = true ∧ Q v (backL vs a 0 e)) : wpE (callV F dfl vs) e Q X :=
  callV_eq hn hF (fun v a h => by rw [backS_L]; exact k v a h) fun _ _ h => h.elim
end DL
namespace My
open PySem PySem.Spec PyProof.Rows L2 DL
/-- a check as a book keeps it -/
def okT (c : Chk) : Prop := c.1.length ≤ 3 ∧ c.2.length ≤ 4000 ∧ ∀ r ∈ c.2, r.length = c.1.length
theorem getD_of {checks : List Chk} {i : Int} (h : i ∈ rgI checks.length) : ∃ k : Nat, i = k ∧ checks[k]? = some (checks.getD i.toNat default) ∧ checks.getD i.toNat default ∈ checks := by
  have hi := mem_rgI h
  refine ⟨i.toNat, by omega, ?_, ?_⟩
  · rw [List.getD_eq_getElem?_getD, List.getElem?_eq_getElem (by omega)]; rfl
  · rw [List.getD_eq_getElem?_getD, List.getElem?_eq_getElem (by omega)]
    exact List.getElem_mem _
def pdC (left : List (List Int)) (c : Chk) : D := .lst ((pairsF c left).map eP)
theorem list_rgI {γ β : Type} [Inhabited γ] (xs : List γ) (f : γ → β) : (rgI xs.length).map (fun i => f (xs.getD i.toNat default)) = xs.map f := by
  unfold rgI
  rw [List.map_map]
  refine List.ext_getElem (by simp) fun i h1 h2 => ?_
  have h3 : i < xs.length := by simpa using h2
  simp [List.getD_eq_getElem?_getD, List.getElem?_eq_getElem h3]
theorem p_all_unlike (cols : List Int) (checks : List Chk) (left : List (List Int)) (hc : ∀ c ∈ checks, okT c) (hl : left.length ≤ 1000) (hn : checks.length ≤ 100) :
    wpE m_all_unlike [.ow (bookO cols checks), .ow (.lst (left.map eT))] (RNs [.ow (bookO cols checks), .ow (.lst (left.map eT))] (.lst (checks.map (pdC left)))) NX := by
  apply w_runF
  · rfl
  · walk_at "ze"
  repeat walk_at "zs"
  with_reducible apply c_map (enc := D.int) (rgI checks.length) (fun i => pdC left (checks.getD i.toNat default))
  walk_at "zc"
  · intro i hi
    obtain ⟨k, rfl, hk, hm⟩ := getD_of hi
    obtain ⟨k1, k2, k3⟩ := hc _ hm
    refine ⟨_, rfl, ?_⟩
    repeat walk_at "zs"
    walk_at "zkSn"
    · exact p_unlike cols checks k _ left hk k3 k1 hl k2
    repeat walk_at "zs"
    exact ⟨rfl, by walk_at "ze"⟩
  repeat walk_at "zs"
  exact ⟨by rw [list_rgI checks (pdC left)], rfl⟩
theorem setF_self (one lot : List Int) : setF one one lot = one := by
  unfold setF
  simp only [ite_self]
  refine List.ext_getElem (by rw [List.length_map, rgI_length]) fun i h1 h2 => ?_
  unfold rgI atZ
  simp [List.getD_eq_getElem?_getD, h2]
theorem barF_nil {c : Chk} {one other kind : List Int} : barF c one other kind = [] ↔ ∀ lot ∈ subsL (atF c.1 one other kind), setF one other lot ∈ c.2 := by
  unfold barF
  rw [List.filter_eq_nil_iff]
  constructor
  · intro h lot hl
    have := h lot (mem_sortT.mpr hl)
    simpa using this
  · intro h lot hl
    have := h lot (mem_sortT.mp hl)
    simpa using this
theorem letP_pairs {checks : List Chk} {left : List (List Int)} {kind : List Int} : letP checks left kind ↔ ∀ c ∈ checks, ∀ p ∈ pairsF c left, barF c p.1 p.2 kind = [] := by
  constructor
  · intro h c hc p hp
    obtain ⟨one, h1, hp⟩ := List.mem_flatMap.mp hp
    obtain ⟨other, h2, rfl⟩ := List.mem_map.mp hp
    obtain ⟨h2, h3⟩ := List.mem_filter.mp h2
    exact barF_nil.mpr (h c hc one h1 other h2 (pairOk_iff.mp h3).2)
  · intro h c hc one h1 other h2 hu
    by_cases q : one = other
    · subst q
      intro lot _
      rw [setF_self]; exact h1
    · exact barF_nil.mp (h c hc (one, other) (List.mem_flatMap.mpr ⟨one, h1, List.mem_map.mpr ⟨other, List.mem_filter.mpr ⟨h2, pairOk_iff.mpr ⟨q, hu⟩⟩, rfl⟩⟩))
theorem p_first_bar (cols : List Int) (checks : List Chk) (left : List (List Int)) (kind : List Int) (hc : ∀ c ∈ checks, okT c) (hn : checks.length ≤ 100) :
    ∀ s2, (s2 = .ow (.lst (checks.map (pdC left))) ∨ s2 = .sh (.lst (checks.map (pdC left)))) → wpE m_first_bar [.ow (bookO cols checks), .sh (eT kind), s2] (fun v a => (∃ d, v = .d d ∧ isN d = decide (letP checks left kind)) ∧ a = [.ow (bookO cols checks), .sh (eT kind), .sh (.lst (checks.map (pdC left)))]) NX := by
  suffices main : DL.wpS (forG (gT [gN 3, gN 4]) (sFor (iVal (dVar 4)) (gT [gN 5, gN 6]) (sSeq (sSet 7 (dFn m_barred_lots [] (aCons (dVar 0) (aCons (dVar 3) (aCons (dVar 5) (aCons (dVar 6) (aCons (dVar 1) aNil)))))))
      (sIf (dAsk (dBin gtV (dCall (fn1 lenF) (aCons (dVar 7) aNil)) (dC (.int 0)))) (sRet 3 (dTup (fCons (dVar 3) (fCons (dVar 5) (fCons (dVar 6) (fCons (dBin ixV (dVar 7) (dC (.int 0))) fNil)))))) sNx))) (enumD (checks.map (pdC left)), none))
      [.ow (bookO cols checks), .sh (eT kind), .sh (.lst (checks.map (pdC left))), .no, .no, .no, .no, .no]
      (fun e' => DL.wpS (sRet 3 (dC .non)) e' (fun e => (∃ d, Val.d .non = .d d ∧ isN d = decide (letP checks left kind)) ∧ e.take 3 = [.ow (bookO cols checks), .sh (eT kind), .sh (.lst (checks.map (pdC left)))]) (rF 3 (fun v a => (∃ d, v = .d d ∧ isN d = decide (letP checks left kind)) ∧ a = [.ow (bookO cols checks), .sh (eT kind), .sh (.lst (checks.map (pdC left)))]) NX))
      (rF 3 (fun v a => (∃ d, v = .d d ∧ isN d = decide (letP checks left kind)) ∧ a = [.ow (bookO cols checks), .sh (eT kind), .sh (.lst (checks.map (pdC left)))]) NX) by
    intro s2 hs2
    rcases hs2 with rfl | rfl
    · apply w_runF
      · rfl
      · walk_at "ze"
      repeat walk_at "zs"
      exact main
    · apply w_runF
      · rfl
      · walk_at "ze"
      repeat walk_at "zs"
      exact main
  rw [enum_rg (γ := Chk) (pdC left) checks]
  with_reducible apply f_loop (enc := fun i => .tup [.int i, pdC left (checks.getD i.toNat default)]) (fun pre e => (∀ i ∈ pre, ∀ p ∈ pairsF (checks.getD i.toNat default) left, barF (checks.getD i.toNat default) p.1 p.2 kind = []) ∧ ∃ g3 g4 g5 g6 g7, e = [.ow (bookO cols checks), .sh (eT kind), .sh (.lst (checks.map (pdC left))), g3, g4, g5, g6, g7]) (rgI checks.length)
  walk_at "zci"
  · exact ⟨by simp, _, _, _, _, _, rfl⟩
  · rintro pre i post _ hx ⟨hpre, g3, g4, g5, g6, g7, rfl⟩
    obtain ⟨k, rfl, hk, hm⟩ := getD_of (checks := checks) (i := i) (by rw [hx]; simp)
    generalize hcc : checks.getD (k : Int).toNat default = c at *
    obtain ⟨k1, k2, k3⟩ := hc _ hm
    refine ⟨_, rfl, ?_⟩
    repeat walk_at "zs"
    unfold pdC
    repeat walk_at "zs"
    with_reducible apply f_loop (enc := eP) (fun pre2 e => (∀ p ∈ pre2, barF c p.1 p.2 kind = []) ∧ ∃ g5 g6 g7, e = [.ow (bookO cols checks), .sh (eT kind), .sh (.lst (checks.map (pdC left))), .sh (.int k), .sh (pdC left c), g5, g6, g7]) (pairsF c left)
    walk_at "zci"
    · exact ⟨by simp, _, _, _, rfl⟩
    · rintro pre2 p post2 _ hx2 ⟨hpre2, g5, g6, g7, rfl⟩
      have hp : p ∈ pairsF c left := by rw [hx2]; simp
      obtain ⟨one, h1, hp2⟩ := List.mem_flatMap.mp hp
      obtain ⟨other, h2, rfl⟩ := List.mem_map.mp hp2
      have h2 := (List.mem_filter.mp h2).1
      refine ⟨_, rfl, ?_⟩
      repeat walk_at "zs"
      walk_at "zkSn"
      · exact p_barred cols checks k c one other kind hk (k3 _ h1) (k3 _ h2) k1
      repeat walk_at "zs"
      refine ⟨fun hb => ?_, fun hb => ?_⟩
      · have hne : barF c one other kind ≠ [] := by
          intro q
          rw [q] at hb
          simp at hb
        repeat walk_at "zs"
        obtain ⟨l0, r0, hl0⟩ : ∃ l0 r0, barF c one other kind = l0 :: r0 := by
          cases q : barF c one other kind with
          | nil => exact absurd q hne
          | cons a b => exact ⟨a, b, rfl⟩
        rw [hl0]
        with_reducible apply w_ix (x := eT l0)
        · rfl
        · rfl
        · rfl
        · show atI (eT l0 :: r0.map eT) 0 = _
          rw [atI_of (Int.le_refl 0) (by simp only [List.length_cons]; omega)]; rfl
        repeat walk_at "zs"
        refine ⟨⟨_, rfl, ?_⟩, by walk_at "ze"⟩
        have hf : decide (letP checks left kind) = false := decide_eq_false fun h => hne (letP_pairs.mp h c hm _ hp)
        rw [hf]; rfl
      · repeat walk_at "zs"
        refine ⟨?_, _, _, _, rfl⟩
        intro p hp
        rcases List.mem_append.mp hp with h | h
        · exact hpre2 p h
        · rw [List.mem_singleton.mp h]
          have : (barF c one other kind).length = 0 := by simpa using hb
          exact List.eq_nil_of_length_eq_zero this
    · rintro _ ⟨hall, g5, g6, g7, rfl⟩
      walk_at "zg"
      refine ⟨?_, _, _, _, _, _, rfl⟩
      intro j hj
      rcases List.mem_append.mp hj with h | h
      · exact hpre j h
      · rw [List.mem_singleton.mp h, hcc]; exact hall
  · rintro _ ⟨hall, g3, g4, g5, g6, g7, rfl⟩
    walk_at "zg"
    repeat walk_at "zs"
    refine ⟨⟨_, rfl, ?_⟩, rfl⟩
    have hf : decide (letP checks left kind) = true := decide_eq_true (letP_pairs.mpr fun c hc p hp => by
      obtain ⟨j, hj, rfl⟩ := List.mem_iff_getElem.mp hc
      have h := hall (j : Int) (by unfold rgI; exact List.mem_map.mpr ⟨j, List.mem_range.mpr hj, rfl⟩)
      have e : checks.getD (j : Int).toNat default = checks[j] := by simp [List.getD_eq_getElem?_getD, hj]
      rw [e] at h
      exact h p hp)
    rw [hf]; rfl
theorem restN_nil (checks : List Chk) : ∀ n, restN checks n [] = []
  | 0 => rfl
  | n + 1 => restN_nil checks n
theorem restN_any (checks : List Chk) : ∀ (n : Nat) (l : List (List Int)), l.length ≤ n → ∀ m, l.length ≤ m → restN checks n l = restN checks m l
  | 0, l, h, m, _ => by rw [List.eq_nil_of_length_eq_zero (Nat.le_zero.mp h), restN_nil, restN_nil]
  | n + 1, l, h, 0, h2 => by rw [List.eq_nil_of_length_eq_zero (Nat.le_zero.mp h2), restN_nil, restN_nil]
  | n + 1, l, h, m + 1, h2 => by
    by_cases q : stepR checks l = l
    · rw [restN_fix checks l q, restN_fix checks l q]
    · have hlt : (stepR checks l).length < l.length := by
        rcases Nat.lt_or_eq_of_le (stepR_len checks l) with h2 | h2
        · exact h2
        · refine absurd ?_ q
          unfold stepR at h2 ⊢
          exact (List.filter_sublist).eq_of_length h2
      show restN checks n (stepR checks l) = restN checks m (stepR checks l)
      exact restN_any checks n (stepR checks l) (by omega) m (by omega)
end My

namespace My
open PySem PySem.Spec PyProof.Rows L2 DL
def restF (checks : List Chk) (l : List (List Int)) : List (List Int) := restN checks l.length l
theorem restF_step (checks : List Chk) (l : List (List Int)) : restF checks (stepR checks l) = restF checks l := by
  unfold restF
  cases l with
  | nil => rfl
  | cons x t =>
    show _ = restN checks t.length (stepR checks (x :: t))
    have h := stepR_len checks (x :: t)
    by_cases q : stepR checks (x :: t) = x :: t
    · rw [q, restN_fix checks _ q, restN_fix checks _ q]
    · have hlt : (stepR checks (x :: t)).length < (x :: t).length := by
        rcases Nat.lt_or_eq_of_le h with h2 | h2
        · exact h2
        · refine absurd ?_ q
          unfold stepR at h2 ⊢
          exact (List.filter_sublist).eq_of_length h2
      rw [List.length_cons] at hlt
      exact restN_any checks _ _ (Nat.le_refl _) _ (by omega)
theorem restF_fix (checks : List Chk) (l : List (List Int)) (h : stepR checks l = l) : restF checks l = l := restN_fix checks l h _
def PRest (checks : List Chk) (kinds : List (List Int)) (v : Val) : Prop := ∃ L : D, v = .d (.tup [L, eTs (restF checks kinds)])
end My

set_option maxHeartbeats 4000000
namespace My
open PySem PySem.Spec PyProof.Rows L2 DL
/-! lots of kinds by size, over a part of the kinds; the smallest lots lie within the knot -/
def okT2 (lot : List (List Int)) (t : List Int) : Bool := match lot.getLast? with
  | none => true
  | some u => ltI u t
def szT (things : List (List Int)) : Nat → List (List (List Int))
  | 0 => [[]]
  | n + 1 => (szT things n).flatMap fun lot => (things.filter (okT2 lot)).map fun t => lot ++ [t]
abbrev Asc (l : List (List Int)) : Prop := l.Pairwise fun a b => ltI a b = true
/-! the first fit, by size, then by order -/
def firstG (G : List (List Int) → Bool) (f : Nat → List (List (List Int))) : List Nat → Option (List (List Int))
  | [] => none
  | n :: ns => match (f n).find? G with
    | some l => some l
    | none => firstG G f ns
end My

namespace My
open PySem PySem.Spec PyProof.Rows L2 DL
theorem mem_kindsO {cols : List Int} {c o : Int} {k : List Int} (h : k ∈ kindsO cols c o) : ∃ n, k = [c, o, n] ∧ n ∈ rgI (atZ cols c).toNat ∧ n ≠ o := by
  obtain ⟨n, hn, rfl⟩ := List.mem_map.mp h
  exact ⟨n, rfl, (List.mem_filter.mp hn).1, by simpa using (List.mem_filter.mp hn).2⟩
theorem mem_kindsC {cols : List Int} {c : Int} {k : List Int} (h : k ∈ kindsC cols c) : ∃ o n, k = [c, o, n] ∧ o ∈ rgI (atZ cols c).toNat ∧ n ∈ rgI (atZ cols c).toNat ∧ n ≠ o := by
  obtain ⟨o, ho, h⟩ := List.mem_flatMap.mp h
  obtain ⟨n, rfl, h1, h2⟩ := mem_kindsO h
  exact ⟨o, n, rfl, ho, h1, h2⟩
theorem mem_kindsF {cols : List Int} {k : List Int} (h : k ∈ kindsF cols) : ∃ c o n, k = [c, o, n] ∧ c ∈ rgI cols.length ∧ o ∈ rgI (atZ cols c).toNat ∧ n ∈ rgI (atZ cols c).toNat ∧ n ≠ o := by
  obtain ⟨c, hc, h⟩ := List.mem_flatMap.mp h
  obtain ⟨o, n, rfl, h1, h2, h3⟩ := mem_kindsC h
  exact ⟨c, o, n, rfl, hc, h1, h2, h3⟩
end My

namespace My
open PySem PySem.Spec PyProof.Rows L2 DL
/-! the way from one row to another one, kind by kind -/
section
variable (places one other : List Int)
def wayR : List (List Int) → List Int → List (List Int)
  | [], _ => []
  | k :: ks, A => (subsL (atF places one other k)).map (fun l => setF one other (A ++ l)) ++ wayR ks (A ++ atF places one other k)
/-- what the program tells of it -/
def stgR : List (List Int) → List Int → List (List Int × List Int × List Int)
  | [], _ => []
  | k :: ks, A => (sortT (subsL (atF places one other k))).map (fun l => (k, l, setF one other (A ++ l))) ++ stgR ks (A ++ atF places one other k)
def ahead (ks : List (List Int)) : List Int := ks.flatMap (atF places one other)
end
def wayF (places one other : List Int) (order : List (List Int)) : List (List Int) := wayR places one other order []
def stgF (places one other : List Int) (order : List (List Int)) : List (List Int × List Int × List Int) := stgR places one other order []
/-- kinds that change -/
def OrdK (order : List (List Int)) : Prop := order.Nodup ∧ ∀ k ∈ order, ∃ c o n, k = [c, o, n] ∧ o ≠ n
theorem mem_atF {places one other k : List Int} {i : Int} : i ∈ atF places one other k ↔ i ∈ rgI places.length ∧ [atZ places i, atZ one i, atZ other i] = k := by
  unfold atF
  rw [List.mem_filter, decide_eq_true_eq]
theorem setF_atI {one other lot : List Int} {i : Int} (h : i ∈ rgI one.length) : atZ (setF one other lot) i = if i ∈ lot then atZ other i else atZ one i := by
  have hi := mem_rgI h
  have := setF_at one other lot i.toNat (by omega)
  rw [Int.toNat_of_nonneg hi.1] at this
  rw [this]
  simp
/-! hulls -/
def Clo (places : List Int) (order S : List (List Int)) : Prop := ∀ a ∈ S, ∀ b ∈ S, ∀ r ∈ wayF places a b order, r ∈ S
structure Hul (places : List Int) (order rows f : List (List Int)) : Prop where
  nd : f.Nodup
  st : sortT f = f
  has : ∀ r ∈ rows, r ∈ f
  clo : Clo places order f
  least : ∀ S : List (List Int), (∀ r ∈ rows, r ∈ S) → Clo places order S → ∀ r ∈ f, r ∈ S
theorem Hul.one {places : List Int} {order rows rows' f f' : List (List Int)} (h : Hul places order rows f) (h' : Hul places order rows' f') (e : ∀ r, r ∈ rows ↔ r ∈ rows') : f = f' := by
  have p : f.Perm f' := (List.perm_ext_iff_of_nodup h.nd h'.nd).mpr fun r => ⟨fun z => h.least f' (fun r hr => h'.has r ((e r).mp hr)) h'.clo r z, fun z => h'.least f (fun r hr => h.has r ((e r).mpr hr)) h.clo r z⟩
  rw [← h.st, ← h'.st]
  exact sortT_congr p
theorem Clo.congr {places : List Int} {order S S' : List (List Int)} (e : ∀ r, r ∈ S ↔ r ∈ S') (h : Clo places order S) : Clo places order S' := fun a ha b hb r hr => (e r).mp (h a ((e a).mpr ha) b ((e b).mpr hb) r hr)
end My

namespace My
open PySem PySem.Spec PyProof.Rows L2 DL
/-! JA: the law's book: rows ascend, each once -/
def Srt (rows : List (List Int)) : Prop := rows.Nodup ∧ sortT rows = rows
theorem rgI_nd (n : Nat) : (rgI n).Nodup := by
  unfold rgI
  exact List.Pairwise.map _ (fun a b h e => h (Int.ofNat.inj e)) List.nodup_range
end My

namespace My
open PySem PySem.Spec PyProof.Rows L2 DL
/-! JC: an order is a ranking just if all tables are closed -/
theorem in_rgI {n : Nat} {i : Int} (h : 0 ≤ i ∧ i < n) : i ∈ rgI n := List.mem_map.mpr ⟨i.toNat, List.mem_range.mpr (by omega), by omega⟩
theorem setF_two (a b A l : List Int) : setF (setF a b A) b l = setF a b (A ++ l) := by
  show (rgI (setF a b A).length).map (fun i => if l.contains i = true then atZ b i else atZ (setF a b A) i) = (rgI a.length).map fun i => if (A ++ l).contains i = true then atZ b i else atZ a i
  rw [setF_len]
  refine List.map_congr_left fun i hi => ?_
  rw [setF_atI hi]
  by_cases h1 : i ∈ l
  · simp [h1]
  · by_cases h2 : i ∈ A
    · simp [h1, h2]
    · simp [h1, h2]
theorem setF_nil (a b : List Int) : setF a b [] = a := by
  have := list_rgI a (fun x => x)
  rw [List.map_id'] at this
  exact this
theorem mem_unlike {places a b q : List Int} : q ∈ unlikeF places a b ↔ ∃ i ∈ rgI places.length, atZ a i ≠ atZ b i ∧ q = [atZ places i, atZ a i, atZ b i] := by
  unfold unlikeF
  rw [List.mem_map]
  constructor
  · rintro ⟨i, hi, rfl⟩
    obtain ⟨h1, h2⟩ := List.mem_filter.mp hi
    exact ⟨i, h1, by simpa using h2, rfl⟩
  · rintro ⟨i, h1, h2, rfl⟩
    exact ⟨i, List.mem_filter.mpr ⟨h1, by simpa using h2⟩, rfl⟩
/-- whether each kind can go first of those that are behind it -/
def rkB (checks : List Chk) (order : List (List Int)) : Bool := (rgI order.length).all fun i => decide (letP checks (order.drop i.toNat) (order.getD i.toNat default))
end My

namespace My
open PySem PySem.Spec PyProof.Rows L2 DL
/-! KA: mathematics of layers: what is set of a layer in any order leaves rows -/
theorem sub_fold : ∀ (ps : List Int) (f : List (List Int)) (a l : List Int), a ∈ f → l.Sublist ps → a ++ l ∈ ps.foldl stepL f
  | [], f, a, l, ha, hl => by
    rw [List.sublist_nil.mp hl, List.append_nil]
    exact ha
  | p :: ps, f, a, l, ha, hl => by
    rw [List.foldl_cons]
    cases hl with
    | cons _ h => exact sub_fold ps _ a l (by unfold stepL; exact List.mem_append.mpr (.inl ha)) h
    | cons_cons _ h =>
      rename_i l'
      have := sub_fold ps (stepL f p) (a ++ [p]) l' (by unfold stepL; exact List.mem_append.mpr (.inr (List.mem_map.mpr ⟨a, ha, rfl⟩))) h
      rw [List.append_assoc] at this
      exact this
theorem sub_subs {ps l : List Int} (h : l.Sublist ps) (hn : l ≠ []) : l ∈ subsL ps := by
  have := sub_fold ps [[]] [] l (by simp) h
  rw [List.nil_append, foldL_subs] at this
  exact (List.mem_cons.mp this).resolve_left hn
theorem setF_ext {one other l m : List Int} (h : ∀ i ∈ rgI one.length, i ∈ l ↔ i ∈ m) : setF one other l = setF one other m := by
  unfold setF
  refine List.map_congr_left fun i hi => ?_
  have := h i hi
  by_cases hl : i ∈ l
  · rw [if_pos (by simpa using hl), if_pos (by simpa using this.mp hl)]
  · rw [if_neg (by simpa using hl), if_neg (by simpa using fun z => hl (this.mpr z))]
theorem setF_lenI (one other l : List Int) : (setF one other l).length = one.length := by
  unfold setF
  rw [List.length_map, rgI_length]
/-- the kind by which a place changes -/
abbrev kdAt (places one other : List Int) (i : Int) : List Int := [atZ places i, atZ one i, atZ other i]
/-- of kinds that can all go first, any places can be set -/
theorem set_any {checks : List Chk} {left : List (List Int)} {c : Chk} (hc : c ∈ checks) (hr : ∀ r ∈ c.2, r.length = c.1.length) {other : List Int} (hot : other ∈ c.2) : ∀ (Ls : List (List Int)), (∀ k ∈ Ls, letP checks left k) → ∀ (one : List Int) (lot : List Int), one ∈ c.2 → (∀ q ∈ unlikeF c.1 one other, q ∈ left) → (∀ i ∈ lot, i ∈ rgI c.1.length → atZ one i ≠ atZ other i → kdAt c.1 one other i ∈ Ls) → setF one other lot ∈ c.2
  | [], _, one, lot, ho, hu, hlot => by
    have : setF one other lot = setF one other [] := by
      unfold setF
      refine List.map_congr_left fun i hi => ?_
      rw [hr one ho] at hi
      by_cases hl : i ∈ lot
      · rw [if_pos (by simpa using hl), if_neg (by simp)]
        by_cases he : atZ one i = atZ other i
        · exact he.symm
        · have := hlot i hl hi he
          cases this
      · rw [if_neg (by simpa using hl), if_neg (by simp)]
    rw [this, setF_nil]
    exact ho
  | k :: Ls, hL, one, lot, ho, hu, hlot => by
    have hl1 := hr one ho
    -- the places of the first kind
    have h1 : setF one other ((atF c.1 one other k).filter fun i => lot.contains i) ∈ c.2 := by
      by_cases hn : (atF c.1 one other k).filter (fun i => lot.contains i) = []
      · rw [hn, setF_nil]; exact ho
      · exact hL k (by simp) c hc one ho other hot hu _ (sub_subs List.filter_sublist hn)
    generalize hA : (atF c.1 one other k).filter (fun i => lot.contains i) = A at h1
    have memA : ∀ i, i ∈ A ↔ i ∈ rgI c.1.length ∧ kdAt c.1 one other i = k ∧ i ∈ lot := fun i => by
      rw [← hA, List.mem_filter, mem_atF]
      simp [and_assoc]
    have at1 : ∀ i ∈ rgI c.1.length, atZ (setF one other A) i = if i ∈ A then atZ other i else atZ one i := fun i hi => setF_atI (by rw [hl1]; exact hi)
    have h2 := set_any hc hr hot Ls (fun q hq => hL q (by simp [hq])) (setF one other A) lot h1 (fun q hq => by
      obtain ⟨i, hi, hne, rfl⟩ := mem_unlike.mp hq
      rw [at1 i hi] at hne ⊢
      by_cases hA2 : i ∈ A
      · rw [if_pos hA2] at hne; exact absurd rfl hne
      · rw [if_neg hA2] at hne ⊢
        exact hu _ (mem_unlike.mpr ⟨i, hi, hne, rfl⟩)) (fun i hil hi hne => by
      rw [at1 i hi] at hne
      by_cases hA2 : i ∈ A
      · rw [if_pos hA2] at hne; exact absurd rfl hne
      · rw [if_neg hA2] at hne
        have hk := hlot i hil hi hne
        unfold kdAt
        rw [at1 i hi, if_neg hA2]
        rcases List.mem_cons.mp hk with q | q
        · exact absurd ((memA i).mpr ⟨hi, q, hil⟩) hA2
        · exact q)
    rw [setF_two] at h2
    rw [setF_ext (l := lot) (m := A ++ lot) fun i _ => ⟨fun h => List.mem_append.mpr (.inr h), fun h => (List.mem_append.mp h).elim (fun h => ((memA i).mp h).2.2) id⟩]
    exact h2
/-! ### layers -/
def layN (checks : List Chk) : Nat → List (List Int) → List (List (List Int))
  | 0, _ => []
  | n + 1, l => if l.filter (fun k => decide (letP checks l k)) = [] then [] else l.filter (fun k => decide (letP checks l k)) :: layN checks n (stepR checks l)
abbrev layF (checks : List Chk) (l : List (List Int)) : List (List (List Int)) := layN checks l.length l
theorem layN_any (checks : List Chk) : ∀ (n : Nat) (l : List (List Int)), l.length ≤ n → ∀ m, l.length ≤ m → layN checks n l = layN checks m l
  | 0, l, h, m, _ => by
    have : l = [] := List.eq_nil_of_length_eq_zero (by omega)
    subst this
    cases m <;> rfl
  | n + 1, l, h, 0, h2 => by
    have : l = [] := List.eq_nil_of_length_eq_zero (by omega)
    subst this
    rfl
  | n + 1, l, h, m + 1, h2 => by
    unfold layN
    split
    · rfl
    · rename_i hne
      obtain ⟨k, hk⟩ := List.exists_mem_of_ne_nil _ hne
      have hlt : (stepR checks l).length < l.length := List.length_filter_lt_length_iff_exists.mpr ⟨k, (List.mem_filter.mp hk).1, by simpa using (List.mem_filter.mp hk).2⟩
      rw [layN_any checks n _ (by omega) m (by omega)]
end My

namespace My
open PySem PySem.Spec PyProof.Rows L2 DL
/-! KB: stores, states, batches by layers -/
abbrev Laid := Int × List Int
def rowOn (st on : List Int) : List Int := on.map (atZ st)
abbrev chkAt (checks : List Chk) (l : Laid) : Chk := checks.getD l.1.toNat default
def goodS (checks : List Chk) (laid : List Laid) (st : List Int) : Bool := laid.all fun l => (chkAt checks l).2.contains (rowOn st l.2)
/-- a laid check that fits -/
structure LaidOk (checks : List Chk) (cells : List Int) (l : Laid) : Prop where
  c0 : 0 ≤ l.1 ∧ l.1 < (checks.length : Int)
  len : l.2.length = (chkAt checks l).1.length
  on : ∀ j ∈ rgI l.2.length, atZ l.2 j ∈ rgI cells.length ∧ atZ cells (atZ l.2 j) = atZ (chkAt checks l).1 j
structure StOk (cols : List Int) (checks : List Chk) (cells : List Int) (laid : List Laid) : Prop where
  c1 : 1 ≤ cells.length
  c8 : cells.length ≤ 8
  cv : ∀ c ∈ cells, 0 ≤ c ∧ c < (cols.length : Int)
  l4 : laid.length ≤ 8
  lv : ∀ l ∈ laid, LaidOk checks cells l
theorem chk_in {checks : List Chk} {cells : List Int} {l : Laid} (h : LaidOk checks cells l) : chkAt checks l ∈ checks := by
  have hl : l.1.toNat < checks.length := by have := h.c0; omega
  unfold chkAt
  rw [List.getD_eq_getElem?_getD, List.getElem?_eq_getElem hl]
  exact List.getElem_mem hl
def unlC (st goal : List Int) : List Int := (rgI st.length).filter fun i => decide (atZ st i ≠ atZ goal i)
theorem mem_unlC {st goal : List Int} {i : Int} : i ∈ unlC st goal ↔ i ∈ rgI st.length ∧ atZ st i ≠ atZ goal i := by
  unfold unlC
  rw [List.mem_filter, decide_eq_true_eq]
theorem atZ_mapI {f : Int → Int} {xs : List Int} {j : Int} (h : j ∈ rgI xs.length) : atZ (xs.map f) j = f (atZ xs j) := by
  have hj := mem_rgI h
  have hl : j.toNat < xs.length := by omega
  unfold atZ
  rw [List.getD_eq_getElem?_getD, List.getD_eq_getElem?_getD, List.getElem?_map, List.getElem?_eq_getElem hl]
  rfl
/-- a laid check's row behind some cells set -/
theorem rowOn_set {st goal on dn : List Int} (h : ∀ j ∈ rgI on.length, atZ on j ∈ rgI st.length) : rowOn (setF st goal dn) on = setF (rowOn st on) (rowOn goal on) ((rgI on.length).filter fun j => dn.contains (atZ on j)) := by
  have e : on = (rgI on.length).map (atZ on) := by
    refine List.ext_getElem (by rw [List.length_map, rgI_length]) fun i h1 h2 => ?_
    rw [List.getElem_map]
    have : (rgI on.length)[i]'(by rw [rgI_length]; exact h1) = (i : Int) := by unfold rgI; simp
    rw [this]
    unfold atZ
    rw [Int.toNat_natCast, List.getD_eq_getElem?_getD, List.getElem?_eq_getElem h1]
    rfl
  conv => lhs; rw [e]
  unfold rowOn setF
  rw [List.length_map, List.map_map]
  refine List.map_congr_left fun j hj => ?_
  have h1 := setF_atI (one := st) (other := goal) (lot := dn) (h j hj)
  show atZ (setF st goal dn) (atZ on j) = _
  rw [h1, atZ_mapI hj, atZ_mapI hj]
  by_cases hm : atZ on j ∈ dn
  · rw [if_pos hm, if_pos (by simpa using ⟨hj, hm⟩)]
  · rw [if_neg hm, if_neg (by simpa using fun _ => hm)]
section
variable {cols : List Int} {checks : List Chk} {cells : List Int} {laid : List Laid}
/-- cells of kinds that can all go first, set in any lot -/
theorem mix_good (S : StOk cols checks cells laid) (hr : ∀ c ∈ checks, ∀ r ∈ c.2, r.length = c.1.length) {st goal : List Int} (hl : st.length = cells.length) (g1 : goodS checks laid st = true) (g2 : goodS checks laid goal = true) {left Ls : List (List Int)} (hL : ∀ k ∈ Ls, letP checks left k)
    (hu : ∀ i ∈ unlC st goal, kdAt cells st goal i ∈ left) {dn : List Int} (hd : ∀ i ∈ dn, i ∈ unlC st goal → kdAt cells st goal i ∈ Ls) : goodS checks laid (setF st goal dn) = true := by
  refine List.all_eq_true.mpr fun l hlm => ?_
  have L := S.lv l hlm
  have hc := chk_in L
  have h1 : rowOn st l.2 ∈ (chkAt checks l).2 := by simpa using List.all_eq_true.mp g1 l hlm
  have h2 : rowOn goal l.2 ∈ (chkAt checks l).2 := by simpa using List.all_eq_true.mp g2 l hlm
  have inC : ∀ j ∈ rgI l.2.length, atZ l.2 j ∈ rgI st.length := fun j hj => by rw [hl]; exact (L.on j hj).1
  have kd : ∀ j ∈ rgI l.2.length, kdAt (chkAt checks l).1 (rowOn st l.2) (rowOn goal l.2) j = kdAt cells st goal (atZ l.2 j) := fun j hj => by
    unfold kdAt rowOn
    rw [atZ_mapI hj, atZ_mapI hj, (L.on j hj).2]
  have ne : ∀ j ∈ rgI l.2.length, atZ (rowOn st l.2) j ≠ atZ (rowOn goal l.2) j → atZ l.2 j ∈ unlC st goal := fun j hj h => by
    unfold rowOn at h
    rw [atZ_mapI hj, atZ_mapI hj] at h
    exact mem_unlC.mpr ⟨inC j hj, h⟩
  rw [rowOn_set inC]
  have := set_any hc (hr _ hc) h2 Ls hL (rowOn st l.2) ((rgI l.2.length).filter fun j => dn.contains (atZ l.2 j)) h1 (fun q hq => by
    obtain ⟨j, hj, hne, rfl⟩ := mem_unlike.mp hq
    rw [← L.len] at hj
    have := hu _ (ne j hj hne)
    rw [← kd j hj] at this
    exact this) (fun j hj1 hj2 hne => by
    obtain ⟨hj, hm⟩ := List.mem_filter.mp hj1
    rw [kd j hj]
    exact hd _ (by simpa using hm) (ne j hj hne))
  simpa using this
/-- the cells of a layer -/
def grp (cells st goal : List Int) (layer : List (List Int)) : List Int := (unlC st goal).filter fun i => layer.contains (kdAt cells st goal i)
theorem mem_grp {st goal : List Int} {layer : List (List Int)} {i : Int} : i ∈ grp cells st goal layer ↔ i ∈ unlC st goal ∧ kdAt cells st goal i ∈ layer := by
  unfold grp
  rw [List.mem_filter]
  simp
theorem grp_eq {st goal : List Int} {layer : List (List Int)} : grp cells st goal layer = (rgI st.length).filter fun i => layer.contains (kdAt cells st goal i) && decide (atZ st i ≠ atZ goal i) := by
  unfold grp unlC
  rw [List.filter_filter]
theorem layN_sub : ∀ (n : Nat) (l : List (List Int)), ∀ layer ∈ layN checks n l, ∀ k ∈ layer, k ∈ l
  | 0, l, layer, h, k, hk => by cases h
  | n + 1, l, layer, h, k, hk => by
    unfold layN at h
    split at h
    · cases h
    · rcases List.mem_cons.mp h with e | e
      · rw [e] at hk; exact (List.mem_filter.mp hk).1
      · exact (List.mem_filter.mp (layN_sub n _ layer e k hk)).1
theorem plan_good (S : StOk cols checks cells laid) (hr : ∀ c ∈ checks, ∀ r ∈ c.2, r.length = c.1.length) {goal : List Int} (g2 : goodS checks laid goal = true) : ∀ (n : Nat) (l : List (List Int)) (st : List Int), st.length = cells.length → goodS checks laid st = true → (∀ i ∈ unlC st goal, kdAt cells st goal i ∈ l) →
    ∀ pre cur post, layN checks n l = pre ++ cur :: post → ∀ part : List Int, (∀ i ∈ part, i ∈ grp cells st goal cur) → goodS checks laid (setF st goal (pre.flatMap (grp cells st goal) ++ part)) = true
  | 0, l, st, _, _, _, pre, cur, post, e, _, _ => by cases pre <;> cases e
  | n + 1, l, st, hl, g1, hu, pre, cur, post, e, part, hp => by
    unfold layN at e
    split at e
    · cases pre <;> cases e
    · have hL : ∀ k ∈ l.filter (fun k => decide (letP checks l k)), letP checks l k := fun k hk => of_decide_eq_true (List.mem_filter.mp hk).2
      cases pre with
      | nil =>
        rw [List.nil_append] at e
        cases e
        exact mix_good S hr hl g1 g2 hL hu fun i hi _ => by
          rw [List.flatMap_nil, List.nil_append] at hi
          exact (mem_grp.mp (hp i hi)).2
      | cons L pre =>
        rw [List.cons_append] at e
        obtain ⟨e1, e2⟩ := List.cons.inj e
        rw [e1] at hL
        have s1 := mix_good S hr hl g1 g2 hL hu (dn := grp cells st goal L) fun i hi _ => (mem_grp.mp hi).2
        have a1 : ∀ i ∈ rgI st.length, atZ (setF st goal (grp cells st goal L)) i = if i ∈ grp cells st goal L then atZ goal i else atZ st i := fun i hi => setF_atI hi
        have u1 : ∀ i, i ∈ unlC (setF st goal (grp cells st goal L)) goal ↔ i ∈ unlC st goal ∧ i ∉ grp cells st goal L := fun i => by
          rw [mem_unlC, mem_unlC, setF_lenI]
          constructor
          · rintro ⟨h1, h2⟩
            rw [a1 i h1] at h2
            by_cases hg : i ∈ grp cells st goal L
            · rw [if_pos hg] at h2; exact absurd rfl h2
            · rw [if_neg hg] at h2; exact ⟨⟨h1, h2⟩, hg⟩
          · rintro ⟨⟨h1, h2⟩, hg⟩
            refine ⟨h1, ?_⟩
            rw [a1 i h1, if_neg hg]; exact h2
        have k1 : ∀ i, i ∈ unlC (setF st goal (grp cells st goal L)) goal → kdAt cells (setF st goal (grp cells st goal L)) goal i = kdAt cells st goal i := fun i hi => by
          obtain ⟨h1, h2⟩ := (u1 i).mp hi
          unfold kdAt
          rw [a1 i (mem_unlC.mp h1).1, if_neg h2]
        -- what a later layer has of cells
        have g3 : ∀ layer, (∀ k ∈ layer, k ∈ stepR checks l) → grp cells (setF st goal (grp cells st goal L)) goal layer = grp cells st goal layer := fun layer hk => by
          rw [grp_eq (layer := layer), grp_eq (st := st) (layer := layer), setF_lenI]
          refine List.filter_congr fun i hi => ?_
          rw [Bool.eq_iff_iff]
          simp only [Bool.and_eq_true, decide_eq_true_eq, List.contains_iff_mem]
          by_cases hg : i ∈ grp cells st goal L
          · have hkL := (mem_grp.mp hg).2
            have nk : kdAt cells st goal i ∉ layer := fun z => by
              have := (List.mem_filter.mp (hk _ z)).2
              rw [← e1] at hkL
              have := (List.mem_filter.mp hkL).2
              simp_all
            have : atZ (setF st goal (grp cells st goal L)) i = atZ goal i := by rw [a1 i hi, if_pos hg]
            exact ⟨fun ⟨_, z⟩ => absurd this z, fun ⟨z, _⟩ => absurd z nk⟩
          · have : atZ (setF st goal (grp cells st goal L)) i = atZ st i := by rw [a1 i hi, if_neg hg]
            unfold kdAt
            rw [this]
        have sub2 : ∀ layer ∈ layN checks n (stepR checks l), ∀ k ∈ layer, k ∈ stepR checks l := layN_sub n _
        have ih := plan_good S hr g2 n (stepR checks l) (setF st goal (grp cells st goal L)) (by rw [setF_lenI]; exact hl) s1 (fun i hi => by
          rw [k1 i hi]
          obtain ⟨h1, h2⟩ := (u1 i).mp hi
          refine List.mem_filter.mpr ⟨hu i h1, ?_⟩
          simp only [Bool.not_eq_true', decide_eq_false_iff_not]
          intro hlet
          refine h2 (mem_grp.mpr ⟨h1, ?_⟩)
          rw [← e1]
          exact List.mem_filter.mpr ⟨hu i h1, by simpa using hlet⟩) pre cur post e2 part (fun i hi => by
          rw [g3 cur (sub2 cur (by rw [e2]; simp))]
          exact hp i hi)
        rw [setF_two] at ih
        have e3 : pre.flatMap (grp cells (setF st goal (grp cells st goal L)) goal) = pre.flatMap (grp cells st goal) := by
          have : ∀ xs : List (List (List Int)), (∀ x ∈ xs, ∀ k ∈ x, k ∈ stepR checks l) → xs.flatMap (grp cells (setF st goal (grp cells st goal L)) goal) = xs.flatMap (grp cells st goal) := fun xs => by
            induction xs with
            | nil => intro _; rfl
            | cons x xs ih2 => intro h; rw [List.flatMap_cons, List.flatMap_cons, g3 x (h x (by simp)), ih2 fun y hy => h y (by simp [hy])]
          exact this pre fun x hx => sub2 x (by rw [e2]; simp [hx])
        rw [e3, ← List.append_assoc] at ih
        rw [List.flatMap_cons]
        exact ih
theorem set_goal {st goal dn : List Int} (hl : goal.length = st.length) (h : ∀ i ∈ unlC st goal, i ∈ dn) : setF st goal dn = goal := by
  refine List.ext_getElem (by rw [setF_lenI, hl]) fun i h1 h2 => ?_
  have hi : (i : Int) ∈ rgI st.length := in_rgI ⟨by omega, by omega⟩
  have e := setF_atI (one := st) (other := goal) (lot := dn) hi
  have g : ∀ {xs : List Int} (h : i < xs.length), atZ xs (i : Int) = xs[i] := fun {xs} h => by
    unfold atZ
    rw [Int.toNat_natCast, List.getD_eq_getElem?_getD, List.getElem?_eq_getElem h]
    rfl
  rw [g h1, g h2, g (by omega)] at e
  rw [e]
  by_cases hm : (i : Int) ∈ dn
  · rw [if_pos hm]
  · rw [if_neg hm]
    have : (i : Int) ∉ unlC st goal := fun z => hm (h _ z)
    rw [mem_unlC] at this
    have := Classical.not_not.mp fun z => this ⟨hi, z⟩
    rw [g (by omega), g h2] at this
    exact this
end
end My

namespace My
open PySem PySem.Spec PyProof.Rows L2 DL
/-! KC: mixed, lots, rows -/
theorem perm_out {α : Type} : ∀ (l : List α) (n : Nat) (h : n < l.length), (l[n] :: l.eraseIdx n).Perm l
  | [], n, h => absurd h (by simp)
  | x :: l, 0, h => List.Perm.refl _
  | x :: l, n + 1, h => by
    have := perm_out l n (by simpa using h)
    rw [List.eraseIdx_cons_succ, List.getElem_cons_succ]
    exact (List.Perm.swap x _ _).trans (this.cons x)
theorem v_mixedP (b : Int × Int) (ks : List (List Int)) (h : ks.length ≤ 1000) : wpE m__law_mixed [.ow (boxO b), .sh (eLs ks)] (fun v a => ∃ (order : List (List Int)) (b' : Int × Int), v = .new (.lst (order.map eT)) ∧ a = [.ow (boxO b'), .sh (eLs ks)] ∧ order.Perm ks) NX := by
  apply w_runF
  · rfl
  · walk_at "ze"
  repeat walk_at "zs"
  with_reducible apply f_loop (enc := D.int) (fun pre e => ∃ (b' : Int × Int) (order left : List (List Int)) (g : SV), e = [.ow (boxO b'), .sh (eLs ks), .ow (.lst (order.map eT)), .ow (.lst (left.map eT)), g] ∧ order.length = pre.length ∧ left.length + pre.length = ks.length ∧ (order ++ left).Perm ks) (rgI ks.length)
  walk_at "zci"
  · exact ⟨b, [], ks, .no, rfl, rfl, rfl, List.Perm.refl _⟩
  · rintro pre t post _ hx ⟨b', order, left, g, rfl, h1, h2, h3⟩
    have hpl : pre.length < ks.length := by have := congrArg List.length hx; rw [rgI_length, List.length_append, List.length_cons] at this; omega
    refine ⟨_, rfl, ?_⟩
    repeat walk_at "zs"
    with_reducible apply w_call1 0 0
    · rfl
    · rfl
    · rfl
    · exact v_takeW b' _ (by simp only [List.length_map]; omega) (by simp only [List.length_map]; omega)
    rintro _ _ ⟨r, b2, rfl, rfl, hr0, hr1⟩
    simp only [List.length_map] at hr1
    refine ⟨rfl, ?_⟩
    walk_at "zg"
    repeat walk_at "zs"
    have hlt : r.toNat < left.length := by omega
    with_reducible apply w_popAt (x := eT (left[r.toNat]'hlt))
    · rfl
    · exact hr0
    · simp only [List.length_map]; omega
    · rw [List.getElem?_map, List.getElem?_eq_getElem hlt]; rfl
    · simp only [List.length_map]; omega
    · walk_at "ze"
    repeat walk_at "zs"
    refine ⟨b2, order ++ [left[r.toNat]'hlt], left.eraseIdx r.toNat, .sh (.int t), ?_, ?_, ?_, ?_⟩
    · rw [List.map_append, er_map]; rfl
    · rw [List.length_append, List.length_append, h1]; rfl
    · rw [List.length_eraseIdx_of_lt hlt, List.length_append, List.length_singleton]; omega
    · rw [List.append_assoc]
      exact (List.Perm.append_left order (by rw [List.singleton_append]; exact perm_out left r.toNat hlt)).trans h3
  · rintro _ ⟨b', order, left, g, rfl, h1, h2, h3⟩
    walk_at "zg"
    repeat walk_at "zs"
    have hn : left = [] := by
      rw [rgI_length] at h2
      exact List.eq_nil_of_length_eq_zero (by omega)
    rw [hn, List.append_nil] at h3
    exact ⟨order, b', rfl, rfl, h3⟩
theorem v_lots0 (ps : List Int) (s : SV) (hs : s = .sh (eL ps) ∨ s = .ow (.lst (ps.map .int))) (h : ps.length ≤ 6) :
    wpE m__law_lots [s] (RNs [s] (.lst ((ps.foldl stepL [[]]).map eT))) NX := by
  have hp : ∀ pre post : List Int, ps = pre ++ post → (pre.foldl stepL [[]]).length ≤ 64 ∧ ∀ l ∈ pre.foldl stepL [[]], l.length ≤ 6 := by
    intro pre post hx
    have hle : pre.length ≤ 6 := by rw [hx, List.length_append] at h; omega
    refine ⟨?_, fun l hl => ?_⟩
    · rw [foldL_len]
      have : 2 ^ pre.length ≤ 2 ^ 6 := Nat.pow_le_pow_right (by omega) hle
      simpa using this
    · have := foldL_item pre [[]] 0 (by simp) l hl
      omega
  have body : ∀ (s0 : SV) (pre post : List Int) (x : Int) (n : DL.Env → Prop) (r : SO → Prop), ps = pre ++ x :: post → n [s0, .ow (.lst (((pre ++ [x]).foldl stepL [[]]).map eT)), .sh (.int x), .no] →
      DL.wpS lotsB [s0, .ow (.lst ((pre.foldl stepL [[]]).map eT)), .sh (.int x), .no] n r := by
    intro s0 pre post x n r hx k
    obtain ⟨hp1, hp2⟩ := hp pre (x :: post) hx
    unfold lotsB
    repeat walk_at "zs"
    with_reducible apply c_map (enc := eT) (pre.foldl stepL [[]]) (fun l => eT (l ++ [x]))
    walk_at "zc"
    · intro l hl
      have := hp2 l hl
      refine ⟨_, rfl, ?_⟩
      repeat walk_at "zs"
      with_reducible apply w_addT
      · rfl
      · rfl
      · walk_at "zn"
      repeat walk_at "zs"
      exact ⟨eT_snoc l x, by walk_at "ze"⟩
    repeat walk_at "zs"
    with_reducible apply w_addL
    · rfl
    · rfl
    · walk_at "zn"
    repeat walk_at "zs"
    rw [List.foldl_append] at k
    unfold stepL at k
    rw [List.foldl_cons, List.foldl_nil, List.map_append, List.map_map] at k
    exact k
  rcases hs with rfl | rfl
  · apply w_runF
    · rfl
    · walk_at "ze"
    repeat walk_at "zs"
    with_reducible apply f_loop (enc := D.int) (fun pre e => ∃ g, e = [.sh (eL ps), .ow (.lst ((pre.foldl stepL [[]]).map eT)), g, .no]) ps
    walk_at "zci"
    · exact ⟨_, rfl⟩
    · rintro pre x post _ hx ⟨g, rfl⟩
      exact ⟨_, rfl, body _ pre post x _ _ hx ⟨_, rfl⟩⟩
    · rintro _ ⟨g, rfl⟩
      walk_at "zg"
      repeat walk_at "zs"
      exact ⟨rfl, rfl⟩
  · apply w_runF
    · rfl
    · walk_at "ze"
    repeat walk_at "zs"
    with_reducible apply f_loop (enc := D.int) (fun pre e => ∃ g, e = [.lk (.lst (ps.map .int)), .ow (.lst ((pre.foldl stepL [[]]).map eT)), g, .no]) ps
    walk_at "zci"
    · exact ⟨_, rfl⟩
    · rintro pre x post _ hx ⟨g, rfl⟩
      exact ⟨_, rfl, body _ pre post x _ _ hx ⟨_, rfl⟩⟩
    · rintro _ ⟨g, rfl⟩
      walk_at "zg"
      repeat walk_at "zs"
      exact ⟨rfl, rfl⟩
end My

namespace My
open PySem PySem.Spec PyProof.Rows L2 DL
/-! KD: the law's bars, layers -/
theorem atI_rgI {f : Int → D} {n : Nat} {i : Int} (h : 0 ≤ i ∧ i < n) : atI ((rgI n).map f) i = some (f i) := by
  rw [atI_of h.1 (by rw [List.length_map, rgI_length]; exact h.2), List.getElem?_map]
  have : (rgI n)[i.toNat]? = some i := by
    unfold rgI
    rw [List.getElem?_map, List.getElem?_range (by omega)]
    simp; omega
  rw [this]
  rfl
theorem w_neNil {e : DL.Env} {X : XQ} {Q : Val → DL.Env → Prop} {v u : Val} {xs : List D} (h1 : vwD e v = some (.lst xs)) (h2 : vwD e u = some (.lst [])) (ho : xs.all (okN 59) = true) (k : Q (.d (.bl (!xs.isEmpty))) e) : wpE (neV v u) e Q X :=
  w_boolV h1 h2 (by unfold okEq; rw [okN_lst, okN_lst, ho]; rfl) (by
    rw [show eqvD (.lst xs) (.lst []) = xs.isEmpty by cases xs <;> simp [eqvD, pd, pdL, PyData.eqv, PyData.eqvAll]]
    exact k)
end My

namespace My
open PySem PySem.Spec PyProof.Rows L2 DL
/-! KE: the law's layers, exactly -/
abbrev layD (checks : List Chk) (kinds : List (List Int)) : D := .tup [.lst ((layF checks kinds).map eTs), .lst ((restF checks kinds).map eT)]
end My

namespace My
open PySem PySem.Spec PyProof.Rows L2 DL
/-! KF: rows closed under an order: only that they are rows -/
theorem w_psomeV {f : M Val} {e : DL.Env} {X : XQ} {Q : Option Int → DL.Env → Prop} (h : wpE f e (fun v e1 => ∃ i, vwD e1 v = some (.int i) ∧ Q (some i) e1) X) : wpE (pSome f) e Q X := by
  refine w_bind (w_mono h (fun v e1 ⟨i, h1, h2⟩ => ?_) fun _ _ h => h)
  exact w_run (by simp only [h1]) h2
theorem nodup_len {α : Type} [DecidableEq α] : ∀ (A l : List α), l.Nodup → (∀ r ∈ l, r ∈ A) → l.length ≤ A.length
  | [], l, _, h => by
    cases l with
    | nil => exact Nat.le_refl _
    | cons a l => have := h a (by simp); cases this
  | a :: A, l, hn, h => by
    have h1 := nodup_len A (l.erase a) (hn.erase a) fun r hr => by
      obtain ⟨k1, k2⟩ := hn.mem_erase_iff.mp hr
      exact (List.mem_cons.mp (h r k2)).resolve_left k1
    rw [List.length_erase] at h1
    rw [List.length_cons]
    split at h1 <;> omega
def plS (places : List Int) (s : SV) : Prop := s = .ow (.lst (places.map .int)) ∨ s = .sh (eL places)
end My

namespace My
open PySem PySem.Spec PyProof.Rows L2 DL
/-! KG: drawn books -/
def colL : List (List Int) := [[2], [2, 2], [3], [2, 3], [2, 2, 2], [2, 1]]
end My

namespace My
open PySem PySem.Spec PyProof.Rows L2 DL
/-! KH: the law's good states -/
abbrev eLd (l : Laid) : D := .tup [.int l.1, eT l.2]
theorem w_eqNil {e : DL.Env} {X : XQ} {Q : Val → DL.Env → Prop} {v u : Val} {xs : List D} (h1 : vwD e v = some (.lst xs)) (h2 : vwD e u = some (.lst [])) (ho : xs.all (okN 59) = true) (k : Q (.d (.bl xs.isEmpty)) e) : wpE (DL.eqV v u) e Q X :=
  w_boolV h1 h2 (by unfold okEq; rw [okN_lst, okN_lst, ho]; rfl) (by
    rw [show eqvD (.lst xs) (.lst []) = xs.isEmpty by cases xs <;> simp [eqvD, pd, pdL, PyData.eqv, PyData.eqvAll]]
    exact k)
theorem filt_all {α : Type} (p : α → Bool) : ∀ l : List α, (l.filter fun x => !p x).isEmpty = l.all p
  | [] => rfl
  | x :: l => by
    cases h : p x
    · rw [List.filter_cons_of_pos (by rw [h]; rfl), List.all_cons, h]; rfl
    · rw [List.filter_cons_of_neg (by rw [h]; simp), List.all_cons, h, filt_all p l]; rfl
theorem LaidOk.mem {checks : List Chk} {cells : List Int} {l : Laid} (L : LaidOk checks cells l) : ∀ c ∈ l.2, c ∈ rgI cells.length := fun c hc => by
  obtain ⟨j, hj, rfl⟩ := List.mem_iff_getElem.mp hc
  have h := (L.on (j : Int) (in_rgI ⟨by omega, by omega⟩)).1
  have e : atZ l.2 (j : Int) = l.2[j] := by
    unfold atZ
    rw [Int.toNat_natCast, List.getD_eq_getElem?_getD, List.getElem?_eq_getElem hj]
    rfl
  rw [e] at h
  exact h
end My

namespace My
open PySem PySem.Spec PyProof.Rows L2 DL
abbrev layT (checks : List Chk) (kinds : List (List Int)) : D := .tup [.tup ((layF checks kinds).map eTs), eTs (restF checks kinds)]
theorem layF_none {checks : List Chk} {l : List (List Int)} (h : l.filter (fun k => decide (letP checks l k)) = []) : layF checks l = [] := by
  show layN checks l.length l = []
  cases l with
  | nil => rfl
  | cons x t =>
    show layN checks (t.length + 1) (x :: t) = []
    unfold layN
    rw [if_pos h]
theorem layF_step {checks : List Chk} {l : List (List Int)} (h : l.filter (fun k => decide (letP checks l k)) ≠ []) : layF checks l = l.filter (fun k => decide (letP checks l k)) :: layF checks (stepR checks l) := by
  show layN checks l.length l = _ :: layN checks (stepR checks l).length (stepR checks l)
  obtain ⟨k, hk⟩ := List.exists_mem_of_ne_nil _ h
  have hlt : (stepR checks l).length < l.length := List.length_filter_lt_length_iff_exists.mpr ⟨k, (List.mem_filter.mp hk).1, by simpa using (List.mem_filter.mp hk).2⟩
  obtain ⟨n, hn⟩ : ∃ n, l.length = n + 1 := ⟨l.length - 1, by omega⟩
  rw [hn]
  show (if l.filter (fun k => decide (letP checks l k)) = [] then [] else l.filter (fun k => decide (letP checks l k)) :: layN checks n (stepR checks l)) = _
  rw [if_neg h, layN_any checks n _ (by omega) _ (Nat.le_refl _)]
end My

namespace My
open PySem PySem.Spec PyProof.Rows L2 DL
/-! LA: layers exact, a book of its own -/
theorem r_layers (cols : List Int) (checks : List Chk) (kinds : List (List Int)) (hc : ∀ c ∈ checks, okT c) (hn : checks.length ≤ 100) (hk : kinds.length ≤ 100) :
    wpE m_layers_and_rest [.ow (bookO cols checks), .sh (eTs kinds)] (fun v a => v = .d (layT checks kinds) ∧ a = [.ow (bookO cols checks), .sh (eTs kinds)]) NX := by
  apply w_runF
  · rfl
  · walk_at "ze"
  repeat walk_at "zs"
  with_reducible apply s_while (fun m e => ∃ (left : List (List Int)) (L : List (List (List Int))) (g4 g5 : SV), e = [.ow (bookO cols checks), .sh (eTs kinds), .ow (.lst (left.map eT)), .ow (.lst (L.map eTs)), g4, g5, .no] ∧ m = left.length ∧ restF checks left = restF checks kinds ∧ L.length + left.length ≤ kinds.length ∧ L ++ layF checks left = layF checks kinds) kinds.length
  · exact ⟨kinds, [], _, _, rfl, rfl, rfl, by simp, rfl⟩
  rintro m _ ⟨left, L, g4, g5, rfl, rfl, hr, hl, hL⟩
  repeat walk_at "zs"
  refine ⟨fun hb => ?_, fun hb => ?_⟩
  · have hlp : 0 < left.length := by simpa using hb
    repeat walk_at "zs"
    walk_at "zkSn"
    · exact p_all_unlike cols checks left hc (by omega) hn
    repeat walk_at "zs"
    with_reducible apply c_inv (enc := eT) (fun pre acc e => acc = (pre.filter fun k => decide (letP checks left k)).map eT ∧ ∃ s4, (s4 = .ow (.lst (checks.map (pdC left))) ∨ s4 = .sh (.lst (checks.map (pdC left)))) ∧ e = [.ow (bookO cols checks), .sh (eTs kinds), .lk (.lst (left.map eT)), .ow (.lst (L.map eTs)), s4, g5, .no]) left
    walk_at "zci"
    · exact ⟨rfl, _, .inl rfl, rfl⟩
    · rintro pre k post acc _ hx ⟨rfl, s4, hs4, rfl⟩
      have hpl : (pre.filter fun k => decide (letP checks left k)).length < left.length := by
        have := congrArg List.length hx
        rw [List.length_append, List.length_cons] at this
        have := List.length_filter_le (fun k => decide (letP checks left k)) pre
        omega
      have fin : ∀ d, isN d = decide (letP checks left k) → wpE (askB (.d (.bl (isN d)))) [.ow (bookO cols checks), .sh (eTs kinds), .lk (.lst (left.map eT)), .ow (.lst (L.map eTs)), .sh (.lst (checks.map (pdC left))), g5, .sh (eT k)]
          (fun b e3 => (b = true → wpE (dVar 6) e3 (fun v e4 => wpE (frz v) e4 (fun d e5 => (List.map eT (pre.filter fun k => decide (letP checks left k))).length < sizeLine ∧ (List.map eT (pre.filter fun k => decide (letP checks left k))) ++ [d] = ((pre ++ [k]).filter fun k => decide (letP checks left k)).map eT ∧ ∃ s4, (s4 = .ow (.lst (checks.map (pdC left))) ∨ s4 = .sh (.lst (checks.map (pdC left)))) ∧ wipeE e5 [6] = [.ow (bookO cols checks), .sh (eTs kinds), .lk (.lst (left.map eT)), .ow (.lst (L.map eTs)), s4, g5, .no]) NX) NX) ∧
            (b = false → (List.map eT (pre.filter fun k => decide (letP checks left k))) = ((pre ++ [k]).filter fun k => decide (letP checks left k)).map eT ∧ ∃ s4, (s4 = .ow (.lst (checks.map (pdC left))) ∨ s4 = .sh (.lst (checks.map (pdC left)))) ∧ wipeE e3 [6] = [.ow (bookO cols checks), .sh (eTs kinds), .lk (.lst (left.map eT)), .ow (.lst (L.map eTs)), s4, g5, .no])) NX := by
        intro d hd
        rw [hd]
        repeat walk_at "zs"
        refine ⟨fun hb => ?_, fun hb => ?_⟩
        · repeat walk_at "zs"
          refine ⟨by walk_at "zl", ?_, _, .inr rfl, by walk_at "ze"⟩
          rw [List.filter_append, List.filter_cons, if_pos hb, List.filter_nil, List.map_append]; rfl
        · refine ⟨?_, _, .inr rfl, by walk_at "ze"⟩
          rw [List.filter_append, List.filter_cons, if_neg (by rw [hb]; decide), List.filter_nil, List.append_nil]
      refine ⟨_, rfl, ?_⟩
      rcases hs4 with rfl | rfl
      all_goals
        repeat walk_at "zs"
        with_reducible apply w_callB
        · rfl
        · first | exact p_first_bar cols checks left k hc hn _ (.inl rfl) | exact p_first_bar cols checks left k hc hn _ (.inr rfl)
        rintro _ _ ⟨⟨d, rfl, hd⟩, rfl⟩
        refine ⟨rfl, ?_⟩
        rw [show backL _ _ 0 _ = [.ow (bookO cols checks), .sh (eTs kinds), .lk (.lst (left.map eT)), .ow (.lst (L.map eTs)), .sh (.lst (checks.map (pdC left))), g5, .sh (eT k)] from rfl]
        repeat walk_at "zs"
        with_reducible apply w_isN
        · rfl
        · rfl
        exact fin d hd
    rintro _ _ ⟨rfl, s4, hs4, rfl⟩
    walk_at "zg"
    repeat walk_at "zs"
    have hfl : (left.filter (fun k => decide (letP checks left k))).length ≤ left.length := List.length_filter_le _ _
    generalize hlay : left.filter (fun k => decide (letP checks left k)) = lay at hfl ⊢
    refine ⟨fun hb => ?_, fun hb => ?_⟩
    · have hn : lay = [] := by simpa using hb
      have hfix := stepR_none checks left (hlay.trans hn)
      repeat walk_at "zs"
      rw [layF_none (hlay.trans hn), List.append_nil] at hL
      refine ⟨?_, rfl⟩
      unfold layT
      rw [← hr, restF_fix checks left hfix, ← hL]
    · repeat walk_at "zs"
      with_reducible apply c_pure (enc := eT) left (fun k => !lay.contains k) eT
      walk_at "zc"
      · intro k hk
        refine ⟨_, rfl, ?_⟩
        repeat walk_at "zs"
        walk_at "zpf"
      repeat walk_at "zs"
      have hlt : (stepR checks left).length < left.length := by
        rcases Nat.lt_or_eq_of_le (stepR_len checks left) with h2 | h2
        · exact h2
        · exfalso
          have hs : stepR checks left = left := by
            unfold stepR at h2 ⊢
            exact (List.filter_sublist).eq_of_length h2
          have : lay = [] := by
            rw [← hlay, List.filter_eq_nil_iff]
            intro k hk
            unfold stepR at hs
            have := List.filter_eq_self.mp hs k hk
            simpa using this
          rw [this] at hb
          simp at hb
      rw [← hlay, stepR_of]
      have hne : left.filter (fun k => decide (letP checks left k)) ≠ [] := fun z => by rw [hlay] at z; rw [z] at hb; simp at hb
      refine ⟨(stepR checks left).length, hlt, stepR checks left, L ++ [lay], _, _, by rw [hlay, List.map_append]; rfl, rfl, ?_, ?_, ?_⟩
      · rw [restF_step, hr]
      · rw [List.length_append, List.length_singleton]; omega
      · rw [← hL, layF_step hne, hlay, List.append_assoc]; rfl
  · have hl0 : left = [] := by
      have : left.length = 0 := by simpa using hb
      exact List.eq_nil_of_length_eq_zero this
    subst hl0
    repeat walk_at "zs"
    refine ⟨?_, rfl⟩
    have hL : L ++ [] = layF checks kinds := hL
    rw [List.append_nil] at hL
    unfold layT
    rw [← hr, ← hL]; rfl
theorem r_layers_of (cols : List Int) (checks : List Chk) (h1 : cols.length ≤ 4) (h2 : ∀ c ∈ cols, 0 ≤ c ∧ c ≤ 4) (hc : ∀ c ∈ checks, okT c) (hn : checks.length ≤ 100) :
    wpE m_layers_of [.ow (bookO cols checks), .sh .non] (RDs [.ow (bookO cols checks), .sh .non] (.tup ((layF checks (kindsF cols)).map eTs))) NX := by
  have hkl := kindsF_len cols h1 h2
  apply w_runF
  · rfl
  · walk_at "ze"
  repeat walk_at "zs"
  walk_at "zkSd"
  · exact p_told_kinds cols checks h1 h2
  repeat walk_at "zs"
  with_reducible apply w_callS
  · rfl
  · exact r_layers cols checks (kindsF cols) hc hn (by omega)
  rintro _ rfl
  refine ⟨rfl, ?_⟩
  repeat walk_at "zs"
  exact ⟨rfl, rfl⟩
end My

namespace My
open PySem PySem.Spec PyProof.Rows L2 DL
/-! texts of lots -/
def GoodS (x : Str) : Prop := ∀ c ∈ x.cps.toList, c < 0x110000
theorem pdL_ints (l : List Int) : pdL (l.map .int) = l.map .int := by
  induction l with
  | nil => rfl
  | cons x l ih => rw [List.map_cons, pdL, ih]; rfl
def smallL (l : List Int) : Prop := l.length ≤ 6 ∧ ∀ i ∈ l, 0 ≤ i ∧ i < 6
end My
namespace My
open PySem PySem.Spec PyProof.Rows L2 DL
/-! KX: what is shown; rules of the plain law -/
structure Lf (B : Nat) (p : PyData) : Prop where
  w : p.weight ≤ B
  s : p.leavesShort 13 = true
  h : p.showable = true
  d : p.hasDict = false
  g : GoodS p.shown
theorem Lf.mono {B C : Nat} {p : PyData} (h : Lf B p) (k : B ≤ C) : Lf C p := ⟨Nat.le_trans h.w k, h.s, h.h, h.d, h.g⟩
section
variable {e : DL.Env} {X : XQ} {Q : Val → DL.Env → Prop} {v u : Val}
end
end My

namespace DL
open PySem PySem.Spec PyProof.Rows L2
theorem w_setV5 {e : Env} {X : XQ} {Q : Val → Env → Prop} {v : Val} {rows : List (List Int)} (h : vwD e v = some (.lst (rows.map My.eT))) (hl : (ddp rows).length < 75) (hk : keysOk rows = true) (k : Q (.new (.lst ((ssL rows).map My.eT))) e) : wpE (setV5 v) e Q X := by
  refine w_run (a := .new (.lst ((ssL rows).map My.eT))) (e' := e) ?_ k
  unfold setV5
  simp only [h]
  rw [if_pos ⟨rfl, rfl⟩, My.its_lst, My.intsDs_map]
  simp only [hk, hl, and_self, if_true]
  rfl
theorem idxD_eT {k : List Int} : ∀ {xs : List (List Int)}, k ∈ xs → idxD (xs.map My.eT) (My.eT k) = some (xs.idxOf k)
  | [], h => by cases h
  | x :: xs, h => by
    unfold idxD
    rw [List.map_cons, List.findIdx?_cons, show eqvD (My.eT x) (My.eT k) = decide (x = k) from eqvD_tup x k, List.idxOf_cons]
    by_cases e : x = k
    · simp [e]
    · have h2 : k ∈ xs := (List.mem_cons.mp h).resolve_left fun z => e z.symm
      have := idxD_eT h2
      unfold idxD at this
      rw [this, show (x == k) = false from by simpa using e]
      simp [e]
theorem w_index {e : Env} {X : XQ} {Q : Val → Env → Prop} {v : Val} {xs : List (List Int)} {k : List Int} {d : D} (h : vwD e v = some (.lst (xs.map My.eT))) (hd : d = My.eT k) (hk : k ∈ xs) (q : Q (.d (.int (xs.idxOf k : Nat))) e) : wpE (indexM v [d]) e Q X := by
  subst hd
  refine w_run ?_ q
  unfold indexM
  simp only [h]
  rw [if_pos ⟨okN_lstT _, okN_tupI2 _⟩]
  simp only [idxD_eT hk]
end DL
namespace My
open PySem PySem.Spec PyProof.Rows L2 DL
/-! OA: rows between two rows, the hull: only that they are rows -/
theorem foldL_len3 {B : List Int} (h : B.length ≤ 3) : (B.foldl stepL [[]]).length ≤ 8 := by
  rw [foldL_len]
  have : 2 ^ B.length ≤ 2 ^ 3 := Nat.pow_le_pow_right (by omega) h
  simpa using this
theorem kind_in {cols : List Int} {c o n : Int} (hc : c ∈ rgI cols.length) (ho : o ∈ rgI (atZ cols c).toNat) (hn : n ∈ rgI (atZ cols c).toNat) (hne : n ≠ o) : [c, o, n] ∈ kindsF cols := by
  unfold kindsF kindsC kindsO
  exact List.mem_flatMap.mpr ⟨c, hc, List.mem_flatMap.mpr ⟨o, ho, List.mem_map.mpr ⟨n, List.mem_filter.mpr ⟨hn, by simpa using hne⟩, rfl⟩⟩⟩
theorem mem_rgI' {n : Nat} {i : Int} (h : 0 ≤ i ∧ i < n) : i ∈ rgI n := by
  unfold rgI
  exact List.mem_map.mpr ⟨i.toNat, List.mem_range.mpr (by omega), by omega⟩
theorem kdAt_kind {cols places one other : List Int} (hp : ∀ p ∈ places, 0 ≤ p ∧ p < (cols.length : Int)) (v1 : validR cols places one) (v2 : validR cols places other) {i : Int} (hi : i ∈ rgI places.length) (hne : ¬ atZ one i = atZ other i) : kdAt places one other i ∈ kindsF cols := by
  have hi2 := mem_rgI hi
  obtain ⟨n, rfl⟩ : ∃ n : Nat, i = (n : Int) := ⟨i.toNat, by omega⟩
  have h1 := v1.2 n (by omega)
  have h2 := v2.2 n (by omega)
  have h3 := hp _ (atZ_mem (xs := places) hi2)
  exact kind_in (mem_rgI' h3) (mem_rgI' (n := (atZ cols (atZ places (n : Int))).toNat) (by omega)) (mem_rgI' (n := (atZ cols (atZ places (n : Int))).toNat) (by omega)) fun z => hne z.symm
theorem v_between (cols places one other : List Int) (order : List (List Int)) (hp : ∀ p ∈ places, 0 ≤ p ∧ p < (cols.length : Int)) (h1 : 1 ≤ places.length) (h3 : places.length ≤ 3) (ho : order.length ≤ 64) (hk : ∀ k ∈ kindsF cols, k ∈ order) (v1 : validR cols places one) (v2 : validR cols places other) :
    wpE m__law_between [.sh (eT places), .sh (eT one), .sh (eT other), .ow (.lst (order.map eT))] (fun v a => (∃ f : List (List Int), v = .new (.lst (f.map eT)) ∧ (∀ r ∈ f, validR cols places r) ∧ f.length ≤ 512) ∧ a = [.sh (eT places), .sh (eT one), .sh (eT other), .ow (.lst (order.map eT))]) NX := by
  have l1 := v1.1
  have l2 := v2.1
  apply w_runF
  · rfl
  · walk_at "ze"
  repeat walk_at "zs"
  with_reducible apply f_loop (enc := D.int) (fun pre e => ∃ (f : List (List Int)) (g5 g6 g7 : SV), e = [.sh (eT places), .sh (eT one), .sh (eT other), .ow (.lst (order.map eT)), .ow (.lst (f.map eT)), g5, g6, g7, .no, .no] ∧ (∀ r ∈ f, validR cols places r) ∧ f.length ≤ 8 * pre.length) (rgI order.length)
  walk_at "zci"
  · exact ⟨[], _, _, _, rfl, by simp, Nat.le_refl _⟩
  · rintro pre a post _ hx ⟨f, g5, g6, g7, rfl, hf1, hf2⟩
    have ha := mem_rgI (i := a) (n := order.length) (by rw [hx]; simp)
    have hpl : pre.length ≤ 64 := by have := congrArg List.length hx; rw [rgI_length, List.length_append] at this; omega
    refine ⟨_, rfl, ?_⟩
    repeat walk_at "zs"
    with_reducible apply c_pure (enc := D.int) (rgI places.length) (fun i => (!decide (atZ one i = atZ other i)) && decide (((order.idxOf (kdAt places one other i) : Nat) : Int) < a)) D.int
    walk_at "zc"
    · intro i hi
      have hi2 := mem_rgI hi
      refine ⟨_, rfl, ?_⟩
      repeat walk_at "zs"
      refine ⟨fun hb => ?_, fun hb => ?_⟩
      · have hb : (!decide (atZ one i = atZ other i)) = true := hb
        have hin : kdAt places one other i ∈ order := hk _ (kdAt_kind hp v1 v2 hi (by simpa using hb))
        repeat walk_at "zs"
        with_reducible apply w_index (k := kdAt places one other i)
        · rfl
        · rfl
        · exact hin
        repeat walk_at "zs"
        rw [hb, Bool.true_and]
        walk_at "zpf"
      · have hb : (!decide (atZ one i = atZ other i)) = false := hb
        rw [hb, Bool.false_and]
        exact ⟨rfl, fun z => (by cases z), fun _ => by walk_at "ze"⟩
    generalize hA : (rgI places.length).filter (fun i => (!decide (atZ one i = atZ other i)) && decide (((order.idxOf (kdAt places one other i) : Nat) : Int) < a)) = A
    have hAl : A.length ≤ 3 := by
      rw [← hA]
      have := List.length_filter_le (fun i => (!decide (atZ one i = atZ other i)) && decide (((order.idxOf (kdAt places one other i) : Nat) : Int) < a)) (rgI places.length)
      rw [rgI_length] at this
      omega
    repeat walk_at "zs"
    with_reducible apply c_pure (enc := D.int) (rgI places.length) (fun i => decide (kdAt places one other i = order.getD a.toNat default)) D.int
    walk_at "zc"
    · intro i hi
      have hi := mem_rgI hi
      refine ⟨_, rfl, ?_⟩
      repeat walk_at "zs"
      with_reducible apply w_ix (x := eT (order.getD a.toNat default))
      · rfl
      · rfl
      · rfl
      · exact atI_map ha
      repeat walk_at "zs"
      walk_at "zpf"
    rw [show (rgI places.length).filter (fun i => decide (kdAt places one other i = order.getD a.toNat default)) = atF places one other (order.getD a.toNat default) from rfl]
    have hBl := atF_len places one other (order.getD a.toNat default)
    generalize atF places one other (order.getD a.toNat default) = B at hBl
    have hB8 := foldL_len3 (B := B) (by omega)
    repeat walk_at "zs"
    walk_at "zkSn"
    · exact v_lots0 B _ (.inr rfl) (by omega)
    repeat walk_at "zs"
    with_reducible apply c_map (enc := eT) (B.foldl stepL [[]]) (fun lot => eT (setF one other (A ++ lot)))
    walk_at "zc"
    · intro lot hl
      have hll := foldL_item B [[]] 0 (by simp) lot hl
      refine ⟨_, rfl, ?_⟩
      repeat walk_at "zs"
      with_reducible apply w_addT
      · rfl
      · rfl
      · walk_at "zn"
      repeat walk_at "zs"
      walk_at "zk0d"
      · exact v_setW one other (A ++ lot) (.tup (A.map D.int ++ lot.map D.int)) rfl (by rw [List.map_append]; rfl) (by
          rw [← List.map_append]
          exact okN_tupI2 _) (by omega) (by omega)
      repeat walk_at "zs"
      exact ⟨rfl, by walk_at "ze"⟩
    repeat walk_at "zs"
    with_reducible apply w_addL
    · rfl
    · rfl
    · refine line_of ?_
      simp only [List.length_map]; omega
    repeat walk_at "zs"
    refine ⟨f ++ (B.foldl stepL [[]]).map (fun lot => setF one other (A ++ lot)), _, _, _, by rw [List.map_append, List.map_map]; rfl, fun r hr => ?_, ?_⟩
    · rcases List.mem_append.mp hr with q | q
      · exact hf1 r q
      · obtain ⟨lot, _, rfl⟩ := List.mem_map.mp q
        exact setF_valid _ v1 v2
    · rw [List.length_append, List.length_append, List.length_map, List.length_singleton]; omega
  · rintro _ ⟨f, g5, g6, g7, rfl, hf1, hf2⟩
    rw [rgI_length] at hf2
    walk_at "zg"
    repeat walk_at "zs"
    exact ⟨⟨f, rfl, hf1, by omega⟩, rfl⟩
end My

namespace My
open PySem PySem.Spec PyProof.Rows L2 DL
/-! OB: the hull -/
theorem rows64 {cols places : List Int} (hv : ∀ c ∈ cols, 0 ≤ c ∧ c ≤ 4) (hp : ∀ p ∈ places, 0 ≤ p ∧ p < (cols.length : Int)) (h3 : places.length ≤ 3) : (allRowsF cols places).length ≤ 64 := by
  have h2 := foldA_len cols 4 hv places [[]] hp
  have h4 : 4 ^ places.length ≤ 4 ^ 3 := Nat.pow_le_pow_right (by omega) h3
  simp only [List.length_singleton, Nat.one_mul] at h2
  unfold allRowsF
  omega
theorem val_at {cols places r : List Int} (h : validR cols places r) {m : Int} (hm : m ∈ r) : ∃ p ∈ places, 0 ≤ m ∧ m < atZ cols p := by
  obtain ⟨i, hi, rfl⟩ := List.mem_iff_getElem.mp hm
  have hi2 : i < places.length := by rw [← h.1]; exact hi
  have q := h.2 i hi2
  have e : atZ r (i : Int) = r[i] := by
    unfold atZ
    rw [Int.toNat_natCast, List.getD_eq_getElem?_getD, List.getElem?_eq_getElem hi]
    rfl
  rw [e] at q
  exact ⟨_, atZ_mem (xs := places) (i := (i : Int)) ⟨by omega, by omega⟩, q⟩
theorem row_small4 {cols places r : List Int} (hv : ∀ c ∈ cols, 0 ≤ c ∧ c ≤ 4) (hp : ∀ p ∈ places, 0 ≤ p ∧ p < (cols.length : Int)) (h : validR cols places r) : ∀ m ∈ r, 0 ≤ m ∧ m < 4 := fun m hm => by
  obtain ⟨p, hpm, h0, h1⟩ := val_at h hm
  have := hv _ (atZ_mem (xs := cols) (hp p hpm))
  omega
theorem ddp_few {cols places : List Int} {rows : List (List Int)} (hv : ∀ c ∈ cols, 0 ≤ c ∧ c ≤ 4) (hp : ∀ p ∈ places, 0 ≤ p ∧ p < (cols.length : Int)) (h3 : places.length ≤ 3) (hr : ∀ r ∈ rows, validR cols places r) : (ddp rows).length ≤ 64 :=
  Nat.le_trans (nodup_leU (allRowsF cols places) (ddp rows) nodup_ddp fun r h => mem_allRows.mpr (hr r (mem_ddp.mp h))) (rows64 hv hp h3)
theorem ssL_few {cols places : List Int} {rows : List (List Int)} (hv : ∀ c ∈ cols, 0 ≤ c ∧ c ≤ 4) (hp : ∀ p ∈ places, 0 ≤ p ∧ p < (cols.length : Int)) (h3 : places.length ≤ 3) (hr : ∀ r ∈ rows, validR cols places r) : (ssL rows).length ≤ 64 := by
  have := ddp_few hv hp h3 hr
  unfold ssL
  rw [List.length_mergeSort]
  exact this
theorem keys_valid {cols places : List Int} {rows : List (List Int)} (hv : ∀ c ∈ cols, 0 ≤ c ∧ c ≤ 4) (hp : ∀ p ∈ places, 0 ≤ p ∧ p < (cols.length : Int)) (h1 : 1 ≤ places.length) (hr : ∀ r ∈ rows, validR cols places r) : keysOk rows = true :=
  keysOk_of h1 fun k hk => ⟨(hr k hk).1, fun m hm => by have := row_small4 hv hp (hr k hk) m hm; omega⟩
theorem row_ne {cols places r : List Int} (h1 : 1 ≤ places.length) (h : validR cols places r) : r ≠ [] := fun e => by
  have := h.1
  rw [e] at this
  simp at this
  omega
theorem filt_nin (f u : List (List Int)) : (u.filter fun r => !f.contains r).length ≤ u.length := List.length_filter_le _ _
theorem v_hullC (cols places : List Int) (rows order : List (List Int)) (hv : ∀ c ∈ cols, 0 ≤ c ∧ c ≤ 4) (hp : ∀ p ∈ places, 0 ≤ p ∧ p < (cols.length : Int)) (h1 : 1 ≤ places.length) (h3 : places.length ≤ 3) (ho : order.length ≤ 64) (hk : ∀ k ∈ kindsF cols, k ∈ order) (hr : ∀ r ∈ rows, validR cols places r) (hl : rows.length ≤ 64) :
    wpE m__law_hull [.sh (eT places), .sh (.lst (rows.map eT)), .ow (.lst (order.map eT))] (fun v a => (∃ f : List (List Int), v = .new (.lst (f.map eT)) ∧ (∀ r ∈ f, validR cols places r) ∧ f.length ≤ 64) ∧ a = [.sh (eT places), .sh (.lst (rows.map eT)), .ow (.lst (order.map eT))]) NX := by
  have fin : ∀ (f : List (List Int)) (g4 g5 g6 g7 : SV), (∀ r ∈ f, validR cols places r) → f.length ≤ 64 → DL.wpS (sRet 3 (dCall (sortC) (aCons (dVar 3) aNil))) [.sh (eT places), .sh (.lst (rows.map eT)), .ow (.lst (order.map eT)), .ow (.lst (f.map eT)), g4, g5, g6, g7, .no] (fun e => ((∃ f : List (List Int), Val.d .non = .new (.lst (f.map eT)) ∧ (∀ r ∈ f, validR cols places r) ∧ f.length ≤ 64) ∧ e.take 3 = [.sh (eT places), .sh (.lst (rows.map eT)), .ow (.lst (order.map eT))])) (rF 3 (fun v a => (∃ f : List (List Int), v = .new (.lst (f.map eT)) ∧ (∀ r ∈ f, validR cols places r) ∧ f.length ≤ 64) ∧ a = [.sh (eT places), .sh (.lst (rows.map eT)), .ow (.lst (order.map eT))]) NX) := by
    intro f g4 g5 g6 g7 hf hf2
    repeat walk_at "zs"
    with_reducible apply w_sortT
    · rfl
    · exact .inl fun r hr2 => row_ne h1 (hf r hr2)
    repeat walk_at "zs"
    exact ⟨⟨sortT f, rfl, fun r hr2 => hf r (mem_sortT.mp hr2), by rw [(sortT_perm f).length_eq]; exact hf2⟩, rfl⟩
  apply w_runF
  · rfl
  · walk_at "ze"
  repeat walk_at "zs"
  with_reducible apply f_loop (enc := D.int) (fun pre e => ∃ (f : List (List Int)) (g4 g5 g6 g7 : SV), e = [.sh (eT places), .sh (.lst (rows.map eT)), .ow (.lst (order.map eT)), .ow (.lst (f.map eT)), g4, g5, g6, g7, .no] ∧ (∀ r ∈ f, validR cols places r) ∧ f.length ≤ 64) (rgI 64)
  · rfl
  · walk_at "ze"
  · exact ⟨rows, _, _, _, _, rfl, hr, hl⟩
  · rintro pre t post _ hx ⟨f, g4, g5, g6, g7, rfl, hf1, hf2⟩
    refine ⟨_, rfl, ?_⟩
    repeat walk_at "zs"
    with_reducible apply f_loop (enc := eT) (fun pre1 e => ∃ (u : List (List Int)) (g6 g7 : SV), e = [.sh (eT places), .sh (.lst (rows.map eT)), .ow (.lst (order.map eT)), .lk (.lst (f.map eT)), .sh (.int t), .ow (.lst (u.map eT)), g6, g7, .no] ∧ (∀ r ∈ u, validR cols places r) ∧ u.length ≤ 32768 * pre1.length) f
    walk_at "zci"
    · exact ⟨[], _, _, rfl, by simp, Nat.le_refl _⟩
    · rintro pre1 one post1 _ hx1 ⟨u, g6, g7, rfl, hu1, hu2⟩
      have v1 := hf1 one (by rw [hx1]; simp)
      have hp1 : pre1.length + 1 ≤ 64 := by rw [hx1, List.length_append, List.length_cons] at hf2; omega
      refine ⟨_, rfl, ?_⟩
      repeat walk_at "zs"
      with_reducible apply f_loop (enc := eT) (fun pre2 e => ∃ (u : List (List Int)) (g7 : SV), e = [.sh (eT places), .sh (.lst (rows.map eT)), .ow (.lst (order.map eT)), .lk (.lst (f.map eT)), .sh (.int t), .ow (.lst (u.map eT)), .sh (eT one), g7, .no] ∧ (∀ r ∈ u, validR cols places r) ∧ u.length ≤ 32768 * pre1.length + 512 * pre2.length) f
      walk_at "zci"
      · exact ⟨u, _, rfl, hu1, hu2⟩
      · rintro pre2 other post2 _ hx2 ⟨u, g7, rfl, hu1, hu2⟩
        have v2 := hf1 other (by rw [hx2]; simp)
        have hp2 : pre2.length + 1 ≤ 64 := by rw [hx2, List.length_append, List.length_cons] at hf2; omega
        refine ⟨_, rfl, ?_⟩
        repeat walk_at "zs"
        with_reducible apply w_callS
        · rfl
        · exact v_between cols places one other order hp h1 h3 ho hk v1 v2
        rintro _ ⟨w, rfl, hw1, hw2⟩
        refine ⟨rfl, ?_⟩
        repeat walk_at "zs"
        with_reducible apply c_pure (enc := eT) w (fun r => !f.contains r) eT
        · rfl
        · walk_at "ze"
        · walk_at "ze"
        · exact line_of (by omega)
        · intro r hr2
          refine ⟨_, rfl, ?_⟩
          repeat walk_at "zs"
          walk_at "zpf"
        have hw3 := filt_nin f w
        repeat walk_at "zs"
        with_reducible apply w_addL
        · rfl
        · rfl
        · show _ ≤ 2 ^ 24
          simp only [List.length_map]; omega
        repeat walk_at "zs"
        refine ⟨u ++ w.filter fun r => !f.contains r, _, by rw [List.map_append], fun r hr2 => ?_, ?_⟩
        · rcases List.mem_append.mp hr2 with q | q
          · exact hu1 r q
          · exact hw1 r (List.mem_filter.mp q).1
        · rw [List.length_append, List.length_append, List.length_singleton]; omega
      · rintro _ ⟨u, g7, rfl, hu1, hu2⟩
        walk_at "zg"
        repeat walk_at "zs"
        refine ⟨u, _, _, rfl, hu1, ?_⟩
        rw [List.length_append, List.length_singleton]; omega
    · rintro _ ⟨u, g6, g7, rfl, hu1, hu2⟩
      walk_at "zg"
      repeat walk_at "zs"
      refine ⟨fun hb => ?_, fun hb => ?_⟩
      · repeat walk_at "zs"
        with_reducible apply w_sortT
        · rfl
        · exact .inl fun r hr2 => row_ne h1 (hf1 r hr2)
        repeat walk_at "zs"
        exact ⟨⟨sortT f, rfl, fun r hr2 => hf1 r (mem_sortT.mp hr2), by rw [(sortT_perm f).length_eq]; exact hf2⟩, rfl⟩
      · repeat walk_at "zs"
        with_reducible apply w_addL
        · rfl
        · rfl
        · show _ ≤ 2 ^ 24
          simp only [List.length_map]; omega
        have hfu : ∀ r ∈ f ++ u, validR cols places r := fun r hr2 => (List.mem_append.mp hr2).elim (hf1 r) (hu1 r)
        with_reducible apply w_setV5 (rows := f ++ u)
        · show some _ = some _
          rw [List.map_append]
        · have := ddp_few hv hp h3 hfu
          omega
        · exact keys_valid hv hp h1 hfu
        repeat walk_at "zs"
        exact ⟨ssL (f ++ u), _, _, _, _, rfl, fun r hr2 => hfu r (mem_ssL.mp hr2), ssL_few hv hp h3 hfu⟩
  · rintro _ ⟨f, g4, g5, g6, g7, rfl, hf1, hf2⟩
    walk_at "zg"
    exact fin f _ _ _ _ hf1 hf2
end My

namespace My
open PySem PySem.Spec PyProof.Rows L2 DL
/-! OC: drawn books -/
structure GoodB4 (cols : List Int) (checks : List Chk) : Prop where
  c1 : 1 ≤ cols.length
  c3 : cols.length ≤ 4
  cv : ∀ c ∈ cols, 1 ≤ c ∧ c ≤ 4
  k6 : checks.length ≤ 6
  kk : ∀ c ∈ checks, okK cols c
theorem x_rows (cols places : List Int) (hv : ∀ c ∈ cols, 0 ≤ c ∧ c ≤ 4) (hp : ∀ p ∈ places, 0 ≤ p ∧ p < (cols.length : Int)) (h1 : 1 ≤ places.length) (h3 : places.length ≤ 4) :
    wpE m__law_rows [.sh (eL cols), .sh (eT places)] (RDs [.sh (eL cols), .sh (eT places)] (.lst ((allRowsF cols places).map eT))) NX := by
  apply w_runF
  · rfl
  · walk_at "ze"
  repeat walk_at "zs"
  with_reducible apply f_loop (enc := D.int) (fun pre e => ∃ s2 g3 g4 g5, e = [.sh (eL cols), .sh (eT places), s2, g3, g4, g5, .no] ∧ ((pre = [] ∧ s2 = .ow (.lst ((pre.foldl (stepA cols) [[]]).map eT))) ∨ (pre ≠ [] ∧ s2 = .sh (.lst ((pre.foldl (stepA cols) [[]]).map eT))))) places
  walk_at "zci"
  · exact ⟨_, _, _, _, rfl, .inl ⟨rfl, rfl⟩⟩
  · rintro pre p post _ hx ⟨s2, g3, g4, g5, rfl, hs2⟩
    have hpm := hp p (by rw [hx]; simp)
    have hv1 := hv _ (atZ_mem hpm)
    have hpl : pre.length ≤ 4 := by rw [hx, List.length_append] at h3; omega
    have hfl : (pre.foldl (stepA cols) [[]]).length ≤ 256 := by
      have := foldA_len cols 4 hv pre [[]] fun q hq => hp q (by rw [hx]; simp [hq])
      have h4 : 4 ^ pre.length ≤ 4 ^ 4 := Nat.pow_le_pow_right (by omega) hpl
      simp only [List.length_singleton, Nat.one_mul] at this
      omega
    have hitem := foldA_item cols pre [[]] 0 (by simp)
    have hz : atZ cols p = ((atZ cols p).toNat : Int) := (Int.toNat_of_nonneg hv1.1).symm
    refine ⟨_, rfl, ?_⟩
    generalize hF : pre.foldl (stepA cols) [[]] = F at *
    have hend : ((pre ++ [p]).foldl (stepA cols) [[]]) = F.flatMap (extR cols p) := by rw [List.foldl_append, hF]; rfl
    rcases hs2 with ⟨hp0, rfl⟩ | ⟨hp0, rfl⟩
    all_goals
      repeat walk_at "zs"
      with_reducible apply f_loop (enc := eT) (fun pre2 e => ∃ g5, e = [.sh (eL cols), .sh (eT places), _, .sh (.int p), .ow (.lst ((pre2.flatMap (extR cols p)).map eT)), g5, .no]) F
      walk_at "zci"
      · exact ⟨_, rfl⟩
      · rintro pre2 row post2 _ hx2 ⟨g5, rfl⟩
        have hrow : row.length = 0 + pre.length := hitem row (by rw [hx2]; simp)
        have hp2 : pre2.length ≤ 256 := by rw [hx2, List.length_append] at hfl; omega
        have hl2 := fm_len (f := extR cols p) (B := 4) (l := pre2) fun x _ => by unfold extR; rw [List.length_map, rgI_length]; omega
        refine ⟨_, rfl, ?_⟩
        repeat walk_at "zs"
        with_reducible apply w_rng1
        · exact hz
        · omega
        with_reducible apply c_map (enc := D.int) (rgI (atZ cols p).toNat) (fun v => eT (row ++ [v]))
        walk_at "zc"
        · intro v hv
          refine ⟨_, rfl, ?_⟩
          repeat walk_at "zs"
          with_reducible apply w_addT
          · rfl
          · rfl
          · walk_at "zn"
          repeat walk_at "zs"
          exact ⟨eT_snoc row v, by walk_at "ze"⟩
        repeat walk_at "zs"
        with_reducible apply w_addL
        · rfl
        · rfl
        · refine line_of ?_
          simp only [List.length_map, rgI_length]; omega
        repeat walk_at "zs"
        refine ⟨.sh (eT row), ?_⟩
        · rw [List.flatMap_append, List.map_append, List.flatMap_cons, List.flatMap_nil, List.append_nil]
          unfold extR
          rw [List.map_map]
          rfl
      · rintro _ ⟨g5, rfl⟩
        walk_at "zg"
        repeat walk_at "zs"
        refine ⟨_, _, _, _, rfl, .inr ⟨by simp, ?_⟩⟩
        rw [hend]
  · rintro _ ⟨s2, g3, g4, g5, rfl, h | h⟩
    · rw [h.1] at h1; exact absurd h1 (by decide)
    · obtain ⟨_, rfl⟩ := h
      walk_at "zg"
      repeat walk_at "zs"
      exact ⟨rfl, rfl⟩
theorem x_kinds (cols : List Int) (h1 : cols.length ≤ 4) (h2 : ∀ c ∈ cols, 0 ≤ c ∧ c ≤ 4) :
    wpE m__law_kinds [.sh (eL cols)] (RNs [.sh (eL cols)] (.lst ((kindsF cols).map eT))) NX := by
  have hc : ∀ i, 0 ≤ i ∧ i < (cols.length : Int) → 0 ≤ atZ cols i ∧ atZ cols i ≤ 4 := fun i hi => h2 _ (atZ_mem hi)
  apply w_runF
  · rfl
  · walk_at "ze"
  repeat walk_at "zs"
  with_reducible apply f_loop (enc := D.int) (fun pre e => ∃ g1 g2, e = [.sh (eL cols), .ow (.lst ((pre.flatMap (kindsC cols)).map eT)), g1, g2, .no]) (rgI cols.length)
  walk_at "zci"
  · exact ⟨_, _, rfl⟩
  · rintro pre c post _ hx ⟨g1, g2, rfl⟩
    have hi : 0 ≤ c ∧ c < (cols.length : Int) := mem_rgI (by rw [hx]; simp)
    obtain ⟨hv0, hv4⟩ := hc c hi
    have hpre : pre.length ≤ 4 := by have := congrArg List.length hx; rw [rgI_length, List.length_append] at this; omega
    have hlen := fm_len (f := kindsC cols) (B := 16) (l := pre) fun x hx2 => kindsC_len cols x (hc x (mem_rgI (by rw [hx]; simp [hx2])))
    have hz : atZ cols c = ((atZ cols c).toNat : Int) := (Int.toNat_of_nonneg hv0).symm
    refine ⟨_, rfl, ?_⟩
    repeat walk_at "zs"
    with_reducible apply w_rng1
    · exact hz
    · omega
    with_reducible apply f_loop (enc := D.int) (fun pre2 e => ∃ g2, e = [.sh (eL cols), .ow (.lst ((pre.flatMap (kindsC cols) ++ pre2.flatMap (kindsO cols c)).map eT)), .sh (.int c), g2, .no]) (rgI (atZ cols c).toNat)
    walk_at "zci"
    · exact ⟨_, by rw [List.flatMap_nil, List.append_nil]; walk_at "ze"⟩
    · rintro pre2 o post2 _ hx2 ⟨g2, rfl⟩
      have hpre2 : pre2.length ≤ 4 := by have := congrArg List.length hx2; rw [rgI_length, List.length_append] at this; omega
      have hlen2 := fm_len (f := kindsO cols c) (B := 4) (l := pre2) fun x _ => kindsO_len cols c x hv4
      have hlen3 := kindsO_len cols c o hv4
      refine ⟨_, rfl, ?_⟩
      repeat walk_at "zs"
      with_reducible apply w_rng1
      · exact hz
      · omega
      with_reducible apply c_pure (enc := D.int) (rgI (atZ cols c).toNat) (fun n => !decide (n = o)) (fun n => eT [c, o, n])
      walk_at "zc"
      · intro n hn
        refine ⟨_, rfl, ?_⟩
        repeat walk_at "zs"
        walk_at "zpf"
      repeat walk_at "zs"
      with_reducible apply w_addL
      · rfl
      · rfl
      · have : (List.map (fun n => eT [c, o, n]) (List.filter (fun n => !decide (n = o)) (rgI (atZ cols c).toNat))).length ≤ 4 := by rw [List.length_map]; unfold kindsO at hlen3; rw [List.length_map] at hlen3; exact hlen3
        refine len_line ?_
        rw [List.length_map, List.length_append]; omega
      repeat walk_at "zs"
      refine ⟨.sh (.int o), ?_⟩
      rw [List.flatMap_append, ← List.append_assoc, List.flatMap_cons, List.flatMap_nil, List.append_nil, List.map_append (l₂ := kindsO cols c o)]
      unfold kindsO
      rw [List.map_map]
      walk_at "ze"
    · rintro _ ⟨g2, rfl⟩
      refine ⟨.sh (.int c), g2, ?_⟩
      walk_at "zg"
      rw [List.flatMap_append, List.flatMap_cons, List.flatMap_nil, List.append_nil]
      rfl
  · rintro _ ⟨g1, g2, rfl⟩
    walk_at "zg"
    repeat walk_at "zs"
    exact ⟨rfl, rfl⟩

abbrev eCL (c : Chk) : D := .tup [eT c.1, eLs c.2]
theorem p_is_checkL (cols : List Int) (c : Chk) (h4 : cols.length ≤ 4) (h : okK cols c) : wpE m_is_check [.sh (eT cols), .sh (eCL c)] (RD (.bl true)) NX := by
  obtain ⟨k1, k2, k3, k4, k5⟩ := h
  apply w_runF
  · rfl
  · walk_at "ze"
  repeat walk_at "zs"
  walk_at "zk0d"
  · exact p_is_seqT _
  repeat walk_at "zs"
  refine br_nd rfl ?_
  repeat walk_at "zs"
  walk_at "zk0d"
  · exact p_is_seqT _
  repeat walk_at "zs"
  walk_at "zk0d"
  · exact p_is_seqL _
  repeat walk_at "zs"
  refine ⟨_, rfl, ?_⟩
  repeat walk_at "zs"
  refine ⟨_, _, rfl, rfl, fun _ => ?_, fun z => ?_⟩
  rotate_left
  · have := of_decide_eq_false z
    rw [List.length_map] at this
    omega
  repeat walk_at "zs"
  refine ⟨_, _, rfl, rfl, ?_⟩
  repeat walk_at "zs"
  refine br_nd (by rw [List.length_map]; omega) ?_
  repeat walk_at "zs"
  with_reducible apply c_map (enc := D.int) c.1 (fun _ => .bl true)
  walk_at "zc"
  · intro p hp
    have := k3 p hp
    refine ⟨_, rfl, ?_⟩
    repeat walk_at "zs"
    walk_at "zk0d"
    · exact p_is_below _ _ this.1 (by rw [List.length_map]; exact this.2)
    repeat walk_at "zs"
    exact ⟨rfl, by walk_at "ze"⟩
  repeat walk_at "zs"
  with_reducible apply c_map (enc := eT) c.2 (fun _ => .bl true)
  · rfl
  · walk_at "ze"
  · walk_at "ze"
  · exact line_of (by omega)
  · intro r hr
    have hr := k5 r hr
    refine ⟨_, rfl, ?_⟩
    repeat walk_at "zs"
    with_reducible apply c_map (enc := D.int) c.1 (fun p => .int (atZ cols p))
    walk_at "zc"
    · intro p hp
      have := k3 p hp
      refine ⟨_, rfl, ?_⟩
      repeat walk_at "zs"
      walk_at "zme"
    repeat walk_at "zs"
    walk_at "zk0d"
    · have e := p_is_values r (c.1.map (atZ cols)) (by rw [List.length_map]; exact hr.1) (by rw [hr.1]; omega) fun i hi => by
        have hi2 : i < c.1.length := by rw [← hr.1]; exact hi
        have := hr.2 i hi2
        have e : atZ (c.1.map (atZ cols)) i = atZ cols (atZ c.1 i) := by
          unfold atZ
          simp [List.getD_eq_getElem?_getD, hi2]
        rw [e]; exact this
      rw [show eL (c.1.map (atZ cols)) = .lst (c.1.map fun p => .int (atZ cols p)) by show D.lst _ = _; rw [List.map_map]; rfl] at e
      exact e
    repeat walk_at "zs"
    exact ⟨rfl, by walk_at "ze"⟩
  repeat walk_at "zs"
  exact (rfl : Val.d _ = Val.d _)
theorem p_told_checkL (cols : List Int) (c : Chk) (h : okK cols c) : wpE m_told_check [.sh (eCL c)] (RD (eC (toldC c))) NX := by
  obtain ⟨k1, k2, k3, k4, k5⟩ := h
  apply w_runF
  · rfl
  · walk_at "ze"
  repeat walk_at "zs"
  with_reducible apply d_inv (enc := eT) (fun pre acc e => acc = (ddR pre).map prT ∧ e = [.sh (eCL c), .no, .no]) c.2
  walk_at "zci"
  · exact ⟨rfl, rfl⟩
  · rintro pre r post acc _ hx ⟨rfl, rfl⟩
    have hl : (ddR pre).length ≤ 12096 := by
      have := ddF_len pre []
      unfold ddR
      have h2 := congrArg List.length hx
      rw [List.length_append] at h2
      simp at this
      omega
    refine ⟨_, rfl, ?_⟩
    repeat walk_at "zs"
    refine ⟨?_, ?_, ?_, by walk_at "ze"⟩
    · show (tkeyD (eT r)).isSome = true
      rw [tkey_eT]; rfl
    · rw [List.length_map]
      exact Nat.lt_of_le_of_lt hl (by decide)
    · show putD true ((ddR pre).map prT) (eT r) (.bl true) = _
      rw [put_dd]
      unfold ddR
      rw [List.foldl_append]; rfl
  · rintro _ _ ⟨rfl, rfl⟩
    walk_at "zg"
    repeat walk_at "zs"
    rw [show List.map (fun x : D × D => x.1) ((ddR c.2).map prT) = (ddR c.2).map eT by rw [List.map_map]; rfl]
    with_reducible apply w_sortT
    · rfl
    · refine .inl fun r hr hn => ?_
      have := (k5 r (mem_ddR.mp hr)).1
      rw [hn] at this
      simp at this
      omega
    repeat walk_at "zs"
    exact (rfl : Val.d _ = Val.d _)
theorem enum_rgCL (checks : List Chk) : enumD (checks.map eCL) = (rgI checks.length).map fun i => .tup [.int i, eCL (checks.getD i.toNat default)] := enum_rg eCL checks
theorem x_book_init (cols : List Int) (checks : List Chk) (cs : D) (hcs : cs = .tup (checks.map eCL) ∨ cs = .lst (checks.map eCL)) (g : GoodB4 cols checks) :
    wpE m_Book___init__ [.ow (.ins "Book" [] []), .sh (eT cols), .sh cs] (fun v a => v = .d .non ∧ ∃ o, a[0]? = some (.ow o) ∧ o = bookO cols (checks.map toldC)) NX := by
  obtain ⟨g1, g3, gv, g6, gk⟩ := g
  have hk : ∀ i, i ∈ rgI checks.length → okK cols (checks.getD i.toNat default) := fun i hi => by
    have := mem_rgI hi
    rw [List.getD_eq_getElem?_getD, List.getElem?_eq_getElem (by omega)]
    exact gk _ (List.getElem_mem _)
  apply w_runF
  · rfl
  · walk_at "ze"
  repeat walk_at "zs"
  walk_at "zk0d"
  · exact p_check_columns cols g1 (by omega) fun c hc => by have := gv c hc; omega
  repeat walk_at "zs"
  apply s_putF (e2 := [.ow (.ins "Book" ["columns"] [eT cols]), .sh (eT cols), .sh cs, .no, .no])
  · rfl
  · exact ⟨by simp, by simp⟩
  · rfl
  have seq : wpE m_is_sequence [.sh cs] (RD (.bl true)) NX := by
    rcases hcs with rfl | rfl
    · exact p_is_seqT _
    · exact p_is_seqL _
  have hlen : lenF cs = some (.int checks.length) := by
    rcases hcs with rfl | rfl
    · show some (D.int ((checks.map eCL).length : Nat)) = _
      rw [List.length_map]
    · show some (D.int ((checks.map eCL).length : Nat)) = _
      rw [List.length_map]
  have hseq : isSeq cs = true := by rcases hcs with rfl | rfl <;> rfl
  have hits : itsD cs = checks.map eCL := by rcases hcs with rfl | rfl <;> rfl
  clear hcs
  repeat walk_at "zs"
  walk_at "zk0d"
  · exact seq
  repeat walk_at "zs"
  with_reducible apply w_fn1
  · exact hlen
  repeat walk_at "zs"
  refine br_dn (by omega) ?_
  repeat walk_at "zs"
  with_reducible apply w_en
  · exact hseq
  rw [hits, enum_rgCL]
  with_reducible apply f_loop (enc := fun i => .tup [.int i, eCL (checks.getD i.toNat default)]) (fun pre e => ∃ g3 g4, e = [.ow (.ins "Book" ["columns"] [eT cols]), .sh (eT cols), .sh cs, g3, g4]) (rgI checks.length)
  walk_at "zci"
  · exact ⟨_, _, rfl⟩
  · rintro pre i post _ hx ⟨g3, g4, rfl⟩
    have hi := hk i (by rw [hx]; simp)
    refine ⟨_, rfl, ?_⟩
    repeat walk_at "zs"
    walk_at "zk0d"
    · exact p_is_checkL cols _ (by omega) hi
    repeat walk_at "zs"
    exact ⟨_, _, rfl⟩
  · rintro _ ⟨g3, g4, rfl⟩
    walk_at "zg"
    repeat walk_at "zs"
    with_reducible apply w_look
    · rfl
    · exact hseq
    rw [hits]
    with_reducible apply c_map (enc := eCL) checks (fun c => eC (toldC c))
    walk_at "zc"
    · intro c hc
      refine ⟨_, rfl, ?_⟩
      repeat walk_at "zs"
      walk_at "zk0d"
      · exact p_told_checkL cols c (gk c hc)
      repeat walk_at "zs"
      exact ⟨rfl, by walk_at "ze"⟩
    repeat walk_at "zs"
    apply s_putF (e2 := [.ow (bookO cols (checks.map toldC)), .sh (eT cols), .sh cs, g3, .no])
    · rfl
    · exact ⟨by simp, by simp⟩
    · show [SV.ow (.ins "Book" ["columns", "checks"] [eT cols, .tup (checks.map fun c => eC (toldC c))]), _, _, _, _] = _
      rw [show (checks.map fun c => eC (toldC c)) = (checks.map toldC).map eC by rw [List.map_map]; rfl]
    exact ⟨by first | trivial | rfl, _, rfl, rfl⟩
/-! suits -/
def colS : List (List Int) := [[2], [2, 2], [3], [2, 3], [2, 2, 2], [1, 2], [4]]
theorem colS_ok {cols : List Int} (h : cols ∈ colS) : 1 ≤ cols.length ∧ cols.length ≤ 3 ∧ ∀ c ∈ cols, 1 ≤ c ∧ c ≤ 4 := by
  simp only [colS, List.mem_cons, List.not_mem_nil, or_false] at h
  rcases h with rfl | rfl | rfl | rfl | rfl | rfl | rfl <;> decide
theorem cut_any (xs : List (List Int)) (n : Nat) : DL.cutD (xs.map eT) none (some (n : Int)) = (xs.take n).map eT := by
  unfold DL.cutD
  rw [HT.sIx_none, HT.sIx_nat, List.length_map, List.drop_zero, Nat.sub_zero, ← List.map_take]
  congr 1
  rcases Nat.le_total n xs.length with h | h
  · rw [Nat.min_eq_left h]
  · rw [Nat.min_eq_right h, List.take_length, List.take_of_length_le h]
def rwS (rows : List (List Int)) (s : SV) : Prop := s = .ow (.lst (rows.map eT)) ∨ s = .sh (eLs rows)
theorem v_bookC (b : Int × Int) (most : Int) (hm0 : 0 ≤ most) (hm3 : most ≤ 5) : wpE m__law_book [.ow (boxO b), .sh (.lst (colS.map eL)), .sh (.int most)] (fun v a => (∃ (cols : List Int) (checks : List Chk) (b' : Int × Int), v = .d (.tup [eT cols, .lst (checks.map eCL)]) ∧ a = [.ow (boxO b'), .sh (.lst (colS.map eL)), .sh (.int most)] ∧ GoodB4 cols checks ∧ cols ∈ colS ∧ ∀ c ∈ checks, c.2.length ≤ 64)) NX := by
  apply w_runF
  · rfl
  · walk_at "ze"
  repeat walk_at "zs"
  walk_at "zk1"
  · exact v_pickD b (colS.map eL) (by decide) (by decide)
  rintro _ _ ⟨cd, b1, rfl, rfl, hcd⟩
  obtain ⟨cols, hcm, rfl⟩ := List.mem_map.mp hcd
  obtain ⟨c1, c3, cv⟩ := colS_ok hcm
  have hv4 : ∀ c ∈ cols, 0 ≤ c ∧ c ≤ 4 := fun c hc => by have := cv c hc; omega
  have hkl := kindsF_len cols (by omega) hv4
  refine ⟨rfl, ?_⟩
  walk_at "zg"
  repeat walk_at "zs"
  walk_at "zkSn"
  · exact x_kinds cols (by omega) hv4
  repeat walk_at "zs"
  walk_at "zk1"
  · exact v_mixedP b1 (kindsF cols) (by omega)
  rintro _ _ ⟨order, b2, rfl, rfl, hperm⟩
  have hol := hperm.length_eq
  refine ⟨rfl, ?_⟩
  walk_at "zg"
  repeat walk_at "zs"
  walk_at "zk1"
  · exact v_takeW b2 4 (by decide) (by decide)
  rintro _ _ ⟨style, b3, rfl, rfl, hs0, hs1⟩
  refine ⟨rfl, ?_⟩
  walk_at "zg"
  repeat walk_at "zs"
  walk_at "zk1"
  · exact v_takeW b3 (most + 1) (by omega) (by omega)
  rintro _ _ ⟨m, b4, rfl, rfl, hm0, hm1⟩
  refine ⟨rfl, ?_⟩
  walk_at "zg"
  repeat walk_at "zs"
  with_reducible apply w_rng1 (n := m.toNat)
  · omega
  · omega
  with_reducible apply f_loop (enc := D.int) (fun pre e => ∃ (b : Int × Int) (checks : List Chk) (g7 g8 g9 g10 : SV), e = [.ow (boxO b), .sh (.lst (colS.map eL)), .sh (.int most), .sh (eL cols), .ow (.lst (order.map eT)), .ow (.lst (checks.map eCL)), .sh (.int style), g7, g8, g9, g10, .no, .no] ∧ checks.length = pre.length ∧ ∀ c ∈ checks, okK cols c ∧ c.2.length ≤ 64) (rgI m.toNat)
  walk_at "zci"
  · exact ⟨b4, [], _, _, _, _, rfl, rfl, by simp⟩
  · rintro pre t post _ hx ⟨b5, checks, g7, g8, g9, g10, rfl, hcl, hck⟩
    have hpl : pre.length ≤ 5 := by have := congrArg List.length hx; rw [rgI_length, List.length_append] at this; omega
    refine ⟨_, rfl, ?_⟩
    repeat walk_at "zs"
    walk_at "zk1"
    · exact v_takeW b5 3 (by decide) (by decide)
    rintro _ _ ⟨m2, b6, rfl, rfl, hm20, hm21⟩
    refine ⟨rfl, ?_⟩
    walk_at "zg"
    repeat walk_at "zs"
    with_reducible apply w_rng1 (n := (1 + m2).toNat)
    · omega
    · omega
    with_reducible apply c_inv (enc := D.int) (fun pre acc e => ∃ (ns : List Int) (b : Int × Int), acc = ns.map .int ∧ ns.length = pre.length ∧ (∀ p ∈ ns, 0 ≤ p ∧ p < (cols.length : Int)) ∧ e = [.ow (boxO b), .sh (.lst (colS.map eL)), .sh (.int most), .sh (eL cols), .ow (.lst (order.map eT)), .ow (.lst (checks.map eCL)), .sh (.int style), .sh (.int t), g8, g9, g10, .no, .no]) (rgI (1 + m2).toNat)
    walk_at "zci"
    · exact ⟨[], b6, rfl, rfl, by simp, rfl⟩
    · rintro pre x post acc _ hx ⟨ns, b9, rfl, hl, hcc, rfl⟩
      have hpl : pre.length ≤ 3 := by have := congrArg List.length hx; rw [rgI_length, List.length_append] at this; omega
      refine ⟨_, rfl, ?_⟩
      repeat walk_at "zs"
      walk_at "zk1"
      · exact v_takeW b9 _ (by rw [List.length_map]; omega) (by rw [List.length_map]; omega)
      rintro _ _ ⟨m5, b10, rfl, rfl, hm50, hm51⟩
      rw [List.length_map] at hm51
      refine ⟨rfl, ?_⟩
      walk_at "zg"
      repeat walk_at "zs"
      refine ⟨by walk_at "zl", ns ++ [m5], b10, by rw [List.map_append]; rfl, by rw [List.length_append, List.length_append, hl]; rfl, fun c hcm => ?_, by walk_at "ze"⟩
      rcases List.mem_append.mp hcm with h | h
      · exact hcc c h
      · rw [List.mem_singleton.mp h]; omega
    rintro _ _ ⟨places, b9, rfl, hpll, hpc, rfl⟩
    rw [rgI_length] at hpll
    have h1 : 1 ≤ places.length := by omega
    have h3 : places.length ≤ 3 := by omega
    have hal := rows64 hv4 hpc h3
    have val : ∀ r ∈ allRowsF cols places, validR cols places r := fun r hr => mem_allRows.mp hr
    walk_at "zg"
    repeat walk_at "zs"
    walk_at "zkSd"
    · exact x_rows cols places hv4 hpc h1 (by omega)
    walk_at "zs"
    with_reducible refine s_cut (fun e => ∃ (b : Int × Int) (rows : List (List Int)), e = [.ow (boxO b), .sh (.lst (colS.map eL)), .sh (.int most), .sh (eL cols), .ow (.lst (order.map eT)), .ow (.lst (checks.map eCL)), .sh (.int style), .sh (.int t), .sh (eT places), .sh (eLs (allRowsF cols places)), .ow (.lst (rows.map eT)), .no, .no] ∧ (∀ r ∈ rows, validR cols places r) ∧ rows.length ≤ 64) ?_ ?_
    · repeat walk_at "zs"
      refine ⟨fun hb => ?_, fun hb => ?_⟩
      · repeat walk_at "zs"
        with_reducible apply c_inv (enc := eT) (fun pre acc e => ∃ (rs : List (List Int)) (b : Int × Int), acc = rs.map eT ∧ rs.Sublist pre ∧ e = [.ow (boxO b), .sh (.lst (colS.map eL)), .sh (.int most), .sh (eL cols), .ow (.lst (order.map eT)), .ow (.lst (checks.map eCL)), .sh (.int style), .sh (.int t), .sh (eT places), .sh (eLs (allRowsF cols places)), g10, .no, .no]) (allRowsF cols places)
        walk_at "zci"
        · exact ⟨[], b9, rfl, List.Sublist.refl _, rfl⟩
        · rintro pre x post acc _ hx ⟨rs, b12, rfl, hsl, rfl⟩
          have hl := hsl.length_le
          have hpl : pre.length < 64 := by have := congrArg List.length hx; rw [List.length_append, List.length_cons] at this; omega
          have sub0 : rs.Sublist (pre ++ [x]) := hsl.trans (List.sublist_append_left _ _)
          have sub1 : (rs ++ [x]).Sublist (pre ++ [x]) := hsl.append (List.Sublist.refl _)
          refine ⟨_, rfl, ?_⟩
          repeat walk_at "zs"
          walk_at "zk1"
          · exact v_takeW b12 3 (by decide) (by decide)
          rintro _ _ ⟨m7, b13, rfl, rfl, hm70, hm71⟩
          refine ⟨rfl, ?_⟩
          walk_at "zg"
          repeat walk_at "zs"
          refine ⟨fun hb3 => ?_, fun hb3 => ?_⟩
          · repeat walk_at "zs"
            exact ⟨by walk_at "zl", rs ++ [x], b13, by rw [List.map_append]; rfl, sub1, by walk_at "ze"⟩
          · exact ⟨rs, b13, rfl, sub0, by walk_at "ze"⟩
        rintro _ _ ⟨rows, b12, rfl, hrs, rfl⟩
        walk_at "zg"
        repeat walk_at "zs"
        exact ⟨b12, rows, rfl, fun r hr => val r (hrs.subset hr), Nat.le_trans hrs.length_le hal⟩
      · repeat walk_at "zs"
        walk_at "zk1"
        · exact v_mixedP b9 (allRowsF cols places) (by omega)
        rintro _ _ ⟨mix, b12, rfl, rfl, hmp⟩
        refine ⟨rfl, ?_⟩
        walk_at "zg"
        repeat walk_at "zs"
        refine ⟨b12, mix.take 5, ?_, fun r hr => val r (hmp.mem_iff.mp (List.mem_of_mem_take hr)), by rw [List.length_take]; omega⟩
        rw [show DL.cutD (mix.map eT) none (some 5) = (mix.take 5).map eT from cut_any mix 5]
    rintro _ ⟨b10, rows, rfl, hrv, hrl⟩
    with_reducible refine s_cut (fun e => ∃ (b : Int × Int) (rows : List (List Int)) (s10 : SV), e = [.ow (boxO b), .sh (.lst (colS.map eL)), .sh (.int most), .sh (eL cols), .ow (.lst (order.map eT)), .ow (.lst (checks.map eCL)), .sh (.int style), .sh (.int t), .sh (eT places), .sh (eLs (allRowsF cols places)), s10, .no, .no] ∧ rwS rows s10 ∧ (∀ r ∈ rows, validR cols places r) ∧ rows.length ≤ 64) ?_ ?_
    · have skipQ : ∀ b : Int × Int, ∃ (b' : Int × Int) (rows' : List (List Int)) (s10 : SV), ([.ow (boxO b), .sh (.lst (colS.map eL)), .sh (.int most), .sh (eL cols), .ow (.lst (order.map eT)), .ow (.lst (checks.map eCL)), .sh (.int style), .sh (.int t), .sh (eT places), .sh (eLs (allRowsF cols places)), .ow (.lst (rows.map eT)), .no, .no] : DL.Env) = [.ow (boxO b'), .sh (.lst (colS.map eL)), .sh (.int most), .sh (eL cols), .ow (.lst (order.map eT)), .ow (.lst (checks.map eCL)), .sh (.int style), .sh (.int t), .sh (eT places), .sh (eLs (allRowsF cols places)), s10, .no, .no] ∧ rwS rows' s10 ∧ (∀ r ∈ rows', validR cols places r) ∧ rows'.length ≤ 64 := fun b => ⟨b, rows, _, rfl, .inl rfl, hrv, hrl⟩
      repeat walk_at "zs"
      refine ⟨fun hb => ?_, fun hb => ?_⟩
      · repeat walk_at "zs"
        refine ⟨fun hb2 => ?_, fun hb2 => ?_⟩
        · repeat walk_at "zs"
          refine ⟨fun hq => ?_, fun hq => ?_⟩
          · repeat walk_at "zs"
            rw [show DL.cutD (rows.map eT) none (some 4) = (rows.take 4).map eT from cut_any rows 4]
            with_reducible apply w_callS
            · rfl
            · exact v_hullC cols places (rows.take 4) order hv4 hpc h1 h3 (by omega) (fun k hk => hperm.mem_iff.mpr hk) (fun r hr => hrv r (List.mem_of_mem_take hr)) (by rw [List.length_take]; omega)
            rintro _ ⟨f, rfl, hf1, hf2⟩
            refine ⟨rfl, ?_⟩
            repeat walk_at "zs"
            exact ⟨_, f, _, rfl, .inl rfl, hf1, hf2⟩
          · repeat walk_at "zs"
            exact ⟨_, rows, _, rfl, .inr rfl, hrv, hrl⟩
        · repeat walk_at "zs"
          walk_at "zk1"
          · exact v_takeW b10 2 (by decide) (by decide)
          rintro _ _ ⟨m8, b12, rfl, rfl, hm80, hm81⟩
          refine ⟨rfl, ?_⟩
          walk_at "zg"
          repeat walk_at "zs"
          refine ⟨fun hb3 => ?_, fun hb3 => ?_⟩
          · repeat walk_at "zs"
            refine ⟨fun hq => ?_, fun hq => ?_⟩
            · repeat walk_at "zs"
              rw [show DL.cutD (rows.map eT) none (some 4) = (rows.take 4).map eT from cut_any rows 4]
              with_reducible apply w_callS
              · rfl
              · exact v_hullC cols places (rows.take 4) order hv4 hpc h1 h3 (by omega) (fun k hk => hperm.mem_iff.mpr hk) (fun r hr => hrv r (List.mem_of_mem_take hr)) (by rw [List.length_take]; omega)
              rintro _ ⟨f, rfl, hf1, hf2⟩
              refine ⟨rfl, ?_⟩
              repeat walk_at "zs"
              exact ⟨_, f, _, rfl, .inl rfl, hf1, hf2⟩
            · repeat walk_at "zs"
              exact ⟨_, rows, _, rfl, .inr rfl, hrv, hrl⟩
          · repeat walk_at "zs"
            exact skipQ _
      · repeat walk_at "zs"
        exact skipQ _
    rintro _ ⟨b11, rows, s10, rfl, hs10, hrv, hrl⟩
    have put : ∀ f : List (List Int), (∀ r ∈ f, validR cols places r) → f.length ≤ 64 → ∀ c ∈ checks ++ [(places, f)], okK cols c ∧ c.2.length ≤ 64 := fun f f1 f2 c hcm => by
      rcases List.mem_append.mp hcm with h | h
      · exact hck c h
      · rw [List.mem_singleton.mp h]
        exact ⟨⟨h1, h3, hpc, by show f.length ≤ _; omega, f1⟩, f2⟩
    have fin : ∀ (b : Int × Int) (f : List (List Int)) (s9 s10 : SV), (∀ r ∈ f, validR cols places r) → f.length ≤ 64 → ∃ (b' : Int × Int) (checks' : List Chk) (g7 g8 g9 g10 : SV), ([.ow (boxO b), .sh (.lst (colS.map eL)), .sh (.int most), .sh (eL cols), .ow (.lst (order.map eT)), .ow (.lst (checks.map eCL ++ [eCL (places, f)])), .sh (.int style), .sh (.int t), .sh (eT places), s9, s10, .no, .no] : DL.Env) = [.ow (boxO b'), .sh (.lst (colS.map eL)), .sh (.int most), .sh (eL cols), .ow (.lst (order.map eT)), .ow (.lst (checks'.map eCL)), .sh (.int style), g7, g8, g9, g10, .no, .no] ∧ checks'.length = (pre ++ [t]).length ∧ ∀ c ∈ checks', okK cols c ∧ c.2.length ≤ 64 := fun b f s9 s10 f1 f2 => ⟨b, checks ++ [(places, f)], _, _, _, _, by rw [List.map_append]; rfl, by rw [List.length_append, List.length_append, hcl]; rfl, put f f1 f2⟩
    rcases hs10 with rfl | rfl
    all_goals
      repeat walk_at "zs"
      walk_at "zk1"
      · exact v_takeW b11 12 (by decide) (by decide)
      rintro _ _ ⟨m9, b12, rfl, rfl, hm90, hm91⟩
      refine ⟨rfl, ?_⟩
      walk_at "zg"
      repeat walk_at "zs"
      refine ⟨fun hb => ?_, fun hb => ?_⟩
      · repeat walk_at "zs"
        exact fin _ _ _ _ hrv hrl
      · repeat walk_at "zs"
        walk_at "zk1"
        · exact v_pickD b12 [.lst [], eLs (allRowsF cols places)] (Nat.le_of_ble_eq_true rfl) (Nat.le_of_ble_eq_true rfl)
        rintro _ _ ⟨cd, b13, rfl, rfl, hcd⟩
        refine ⟨rfl, ?_⟩
        walk_at "zg"
        repeat walk_at "zs"
        rcases List.mem_cons.mp hcd with rfl | hcd
        · exact fin _ [] _ _ (by simp) (by simp)
        · rw [List.mem_singleton.mp hcd]
          exact fin _ _ _ _ val hal
  · rintro _ ⟨b5, checks, g7, g8, g9, g10, rfl, hcl, hck⟩
    rw [rgI_length] at hcl
    walk_at "zg"
    repeat walk_at "zs"
    exact ⟨cols, checks, b5, rfl, rfl, ⟨c1, by omega, cv, by omega, fun c h => (hck c h).1⟩, hcm, fun c h => (hck c h).2⟩
end My

namespace My
open PySem PySem.Spec PyProof.Rows L2 DL
/-! OD: what bars a kind, by the law's own look -/
abbrev Tr3 := List Int × List Int × List Int
abbrev eP3 (p : Tr3) : D := .tup [eT p.1, eT p.2.1, eT p.2.2]
def barsP (places : List Int) (rows : List (List Int)) (kind : List Int) (left : List (List Int)) (one other : List Int) : List Tr3 :=
  if (unlikeF places one other).filter (fun k => !left.contains k) = [] then ((sortT ((atF places one other kind).foldl stepL [[]])).filter fun lot => !rows.contains (setF one other lot)).map fun lot => (one, other, lot) else []
def barsF (places : List Int) (rows : List (List Int)) (kind : List Int) (left : List (List Int)) : List Tr3 := rows.flatMap fun one => rows.flatMap fun other => barsP places rows kind left one other
/-- a check as the law keeps it -/
def okF (c : Chk) : Prop := c.1.length ≤ 3 ∧ c.2.length ≤ 64 ∧ ∀ r ∈ c.2, r.length = c.1.length
end My

namespace My
open PySem PySem.Spec PyProof.Rows L2 DL
local macro_rules | `(tactic| walk_at "zs") => `(tactic| (with_reducible apply DL.s_raise))
/-! sequences and numbers of any data -/
def sqB : D → Bool
  | .tup _ => true
  | .lst _ => true
  | _ => false
def belB (d : D) (n : Int) : Bool := match d with
  | .int i => decide (0 ≤ i) && decide (i < n)
  | _ => false
abbrev okTy (d : D) : Prop := (tyNm d).isSome = true
theorem sq_len {d : D} (h : sqB d = true) : lenF d = some (.int ((itsD d).length : Nat)) := by cases d <;> first | rfl | cases h
theorem p_is_seqD (d : D) (h : okTy d) : wpE m_is_sequence [.sh d] (RD (.bl (sqB d))) NX := by
  apply w_runF
  · rfl
  · walk_at "ze"
  repeat walk_at "zs"
  with_reducible apply w_isT (b := sqB d)
  · cases d <;> first | rfl | cases h
  repeat walk_at "zs"
  exact (rfl : Val.d _ = Val.d _)
theorem p_is_seqO (xs : List D) : wpE m_is_sequence [.ow (.lst xs)] (RDs [.ow (.lst xs)] (.bl true)) NX := by
  apply w_runF
  · rfl
  · walk_at "ze"
  repeat walk_at "zs"
  exact ⟨rfl, rfl⟩
theorem p_integer_no (d : D) (h : okTy d) (hi : ∀ i, d ≠ .int i) : wpE m_is_integer [.sh d] (RD (.bl false)) NX := by
  cases d with
  | int i => exact absurd rfl (hi i)
  | non => exact w_run (a := .d (.bl false)) (e' := [.sh .non]) rfl rfl
  | bl b => exact w_run (a := .d (.bl false)) (e' := [.sh (.bl b)]) rfl rfl
  | str x => exact w_run (a := .d (.bl false)) (e' := [.sh (.str x)]) rfl rfl
  | tup xs => exact w_run (a := .d (.bl false)) (e' := [.sh (.tup xs)]) rfl rfl
  | lst xs => exact w_run (a := .d (.bl false)) (e' := [.sh (.lst xs)]) rfl rfl
  | _ => cases h
theorem p_below_no (d : D) (n : Int) (h : okTy d) (hi : ∀ i, d ≠ .int i) : wpE m_is_below [.sh d, .sh (.int n)] (RD (.bl false)) NX := by
  have hn : wpE m_is_number [.sh d] (RD (.bl false)) NX := by
    apply w_runF
    · rfl
    · walk_at "ze"
    repeat walk_at "zs"
    walk_at "zk0d"
    · exact p_integer_no d h hi
    repeat walk_at "zs"
    exact (rfl : Val.d _ = Val.d _)
  apply w_runF
  · rfl
  · walk_at "ze"
  repeat walk_at "zs"
  walk_at "zk0d"
  · exact hn
  repeat walk_at "zs"
  exact (rfl : Val.d _ = Val.d _)
theorem p_numberI (i : Int) : wpE m_is_number [.sh (.int i)] (RD (.bl (decide (0 ≤ i)))) NX := by
  apply w_runF
  · rfl
  · walk_at "ze"
  repeat walk_at "zs"
  walk_at "zk0d"
  · exact p_is_integer i
  repeat walk_at "zs"
  exact (rfl : Val.d _ = Val.d _)
theorem p_belowI (i n : Int) : wpE m_is_below [.sh (.int i), .sh (.int n)] (RD (.bl (belB (.int i) n))) NX := by
  apply w_runF
  · rfl
  · walk_at "ze"
  repeat walk_at "zs"
  walk_at "zk0d"
  · exact p_numberI i
  by_cases h : 0 ≤ i
  · rw [decide_eq_true h, show belB (.int i) n = decide (i < n) from by show (decide (0 ≤ i) && decide (i < n)) = _; rw [decide_eq_true h]; rfl]
    repeat walk_at "zs"
    exact (rfl : Val.d _ = Val.d _)
  · rw [decide_eq_false h, show belB (.int i) n = false from by show (decide (0 ≤ i) && decide (i < n)) = _; rw [decide_eq_false h]; rfl]
    repeat walk_at "zs"
    exact (rfl : Val.d _ = Val.d _)
theorem p_belowD (d : D) (n : Int) (h : okTy d) : wpE m_is_below [.sh d, .sh (.int n)] (RD (.bl (belB d n))) NX := by
  by_cases hi : ∃ i, d = .int i
  · obtain ⟨i, rfl⟩ := hi
    exact p_belowI i n
  · have e : belB d n = false := by
      cases d with
      | int i => exact absurd ⟨i, rfl⟩ hi
      | _ => rfl
    rw [e]
    exact p_below_no d n h fun i z => hi ⟨i, z⟩
abbrev refX (d : D) : Exn := ⟨"Refused", ["at"], [d]⟩
end My

namespace DL
open PySem PySem.Spec PyProof.Rows L2
theorem w_aone {e : Env} {X : XQ} {f : M Val} {Q : List Val → Env → Prop} (h : wpE f e (fun v e1 => Q [v] e1) X) : wpE (aOne f) e Q X := w_bind (w_mono h (fun _ _ k => w_run rfl k) fun _ _ h => h)
end DL
namespace My
open PySem PySem.Spec PyProof.Rows L2 DL
local macro_rules | `(tactic| walk_at "zs") => `(tactic| (with_reducible apply DL.s_raise))
local macro_rules | `(tactic| walk_at "zs") => `(tactic| (with_reducible apply DL.w_aone))
/-! OE: kinds of any data, what can go first -/
def numI (d : D) : Int := match d with
  | .int i => i
  | _ => 0
def numsOf (x : D) : List Int := (itsD x).map numI
theorem bel_int {d : D} {n : Int} (h : belB d n = true) : d = .int (numI d) ∧ 0 ≤ numI d ∧ numI d < n := by
  cases d with
  | int i =>
    have h : (decide (0 ≤ i) && decide (i < n)) = true := h
    rw [Bool.and_eq_true, decide_eq_true_eq, decide_eq_true_eq] at h
    exact ⟨rfl, h⟩
  | _ => cases h
def kind3 (cols : List Int) : List D → Bool
  | [a, b, c] => belB a cols.length && (belB b (atZ cols (numI a)) && (belB c (atZ cols (numI a)) && !decide (numI b = numI c)))
  | _ => false
def kindB (cols : List Int) (x : D) : Bool := sqB x && kind3 cols (itsD x)
theorem kind3_eq {cols : List Int} {a b c : D} (h : kind3 cols [a, b, c] = true) : ∃ i j k : Int, a = .int i ∧ b = .int j ∧ c = .int k ∧ (0 ≤ i ∧ i < cols.length) ∧ (0 ≤ j ∧ j < atZ cols i) ∧ (0 ≤ k ∧ k < atZ cols i) ∧ j ≠ k := by
  unfold kind3 at h
  simp only [Bool.and_eq_true, Bool.not_eq_true', decide_eq_false_iff_not] at h
  obtain ⟨h1, h2, h3, h4⟩ := h
  obtain ⟨a1, a2⟩ := bel_int h1
  obtain ⟨b1, b2⟩ := bel_int h2
  obtain ⟨c1, c2⟩ := bel_int h3
  exact ⟨_, _, _, a1, b1, c1, a2, b2, c2, h4⟩
theorem kindB_form {cols : List Int} {x : D} (h : kindB cols x = true) : numsOf x ∈ kindsF cols ∧ (x = eT (numsOf x) ∨ x = eL (numsOf x)) := by
  unfold kindB at h
  rw [Bool.and_eq_true] at h
  obtain ⟨hs, h⟩ := h
  cases x with
  | tup ys =>
    match ys, h with
    | [a, b, c], h =>
      obtain ⟨i, j, k, rfl, rfl, rfl, h1, h2, h3, h4⟩ := kind3_eq h
      exact ⟨show [i, j, k] ∈ kindsF cols from kind_in (mem_rgI' h1) (mem_rgI' (n := (atZ cols i).toNat) (by omega)) (mem_rgI' (n := (atZ cols i).toNat) (by omega)) fun z => h4 z.symm, .inl rfl⟩
  | lst ys =>
    match ys, h with
    | [a, b, c], h =>
      obtain ⟨i, j, k, rfl, rfl, rfl, h1, h2, h3, h4⟩ := kind3_eq h
      exact ⟨show [i, j, k] ∈ kindsF cols from kind_in (mem_rgI' h1) (mem_rgI' (n := (atZ cols i).toNat) (by omega)) (mem_rgI' (n := (atZ cols i).toNat) (by omega)) fun z => h4 z.symm, .inr rfl⟩
  | _ => cases hs
theorem kindB_of {cols k : List Int} (h : k ∈ kindsF cols) (x : D) (hx : x = eT k ∨ x = eL k) : kindB cols x = true ∧ numsOf x = k := by
  obtain ⟨c, o, n, rfl, hc, ho, hn, hne⟩ := mem_kindsF h
  have hc := mem_rgI hc
  have ho := mem_rgI ho
  have hn := mem_rgI hn
  have key : kind3 cols [.int c, .int o, .int n] = true := by
    unfold kind3
    have b1 : belB (.int c) cols.length = true := by show (decide (0 ≤ c) && decide (c < (cols.length : Int))) = true; simp [hc]
    have b2 : belB (.int o) (atZ cols c) = true := by show (decide (0 ≤ o) && decide (o < atZ cols c)) = true; simp; omega
    have b3 : belB (.int n) (atZ cols c) = true := by show (decide (0 ≤ n) && decide (n < atZ cols c)) = true; simp; omega
    show (belB (.int c) cols.length && (belB (.int o) (atZ cols c) && (belB (.int n) (atZ cols c) && !decide (o = n)))) = true
    rw [b1, b2, b3, decide_eq_false fun z => hne z.symm]; rfl
  rcases hx with rfl | rfl
  · exact ⟨by unfold kindB; exact key, rfl⟩
  · exact ⟨by unfold kindB; exact key, rfl⟩
theorem p_is_kindD (cols : List Int) (checks : List Chk) (x : D) (h : okTy x) (hi : ∀ y ∈ itsD x, okTy y) :
    wpE m_is_kind [.ow (bookO cols checks), .sh x] (RDs [.ow (bookO cols checks), .sh x] (.bl (kindB cols x))) NX := by
  have hseq := p_is_seqD x h
  cases hs : sqB x with
  | false =>
    have e : kindB cols x = false := by unfold kindB; rw [hs]; rfl
    rw [e]
    rw [hs] at hseq
    apply w_runF
    · rfl
    · walk_at "ze"
    repeat walk_at "zs"
    walk_at "zk0d"
    · exact hseq
    repeat walk_at "zs"
    exact ⟨rfl, rfl⟩
  | true =>
    rw [hs] at hseq
    by_cases hl : (itsD x).length = 3
    · obtain ⟨a, b, c, hx⟩ : ∃ a b c, itsD x = [a, b, c] := by
        match itsD x, hl with
        | [a, b, c], _ => exact ⟨a, b, c, rfl⟩
      have ha := hi a (by rw [hx]; simp)
      have hb := hi b (by rw [hx]; simp)
      have hc := hi c (by rw [hx]; simp)
      have e : kindB cols x = kind3 cols [a, b, c] := by unfold kindB; rw [hs, hx]; rfl
      rw [e, show kind3 cols [a, b, c] = (belB a cols.length && (belB b (atZ cols (numI a)) && (belB c (atZ cols (numI a)) && !decide (numI b = numI c)))) from rfl]
      have hx2 : x = .tup [a, b, c] ∨ x = .lst [a, b, c] := by
        cases x with
        | tup ys => exact .inl (by rw [show ys = [a, b, c] from hx])
        | lst ys => exact .inr (by rw [show ys = [a, b, c] from hx])
        | _ => cases hs
      clear hl hs h hi e hx
      have pa := p_belowD a cols.length ha
      have pb := p_belowD b (atZ cols (numI a)) hb
      have pc := p_belowD c (atZ cols (numI a)) hc
      rcases hx2 with rfl | rfl
      all_goals
        apply w_runF
        · rfl
        · walk_at "ze"
        repeat walk_at "zs"
        walk_at "zk0d"
        · exact hseq
        repeat walk_at "zs"
        refine br_of (c := false) rfl (br_f ?_)
        repeat walk_at "zs"
        walk_at "zk0d"
        · rw [List.length_map]; exact pa
        cases qa : belB a cols.length with
        | false =>
          repeat walk_at "zs"
          exact ⟨rfl, rfl⟩
        | true =>
          obtain ⟨a1, a2, a3⟩ := bel_int qa
          generalize numI a = i at *
          subst a1
          repeat walk_at "zs"
          walk_at "zk0d"
          · exact pb
          cases qb : belB b (atZ cols i) with
          | false =>
            repeat walk_at "zs"
            exact ⟨rfl, rfl⟩
          | true =>
            repeat walk_at "zs"
            walk_at "zk0d"
            · exact pc
            cases qc : belB c (atZ cols i) with
            | false =>
              repeat walk_at "zs"
              exact ⟨rfl, rfl⟩
            | true =>
              obtain ⟨b1, _⟩ := bel_int qb
              obtain ⟨c1, _⟩ := bel_int qc
              generalize numI b = j at *
              generalize numI c = k at *
              subst b1 c1
              repeat walk_at "zs"
              exact ⟨rfl, rfl⟩
    · have e : kindB cols x = false := by
        unfold kindB
        rw [hs]
        match itsD x, hl with
        | [], _ => rfl
        | [_], _ => rfl
        | [_, _], _ => rfl
        | [_, _, _], z => exact absurd rfl z
        | _ :: _ :: _ :: _ :: _, _ => rfl
      rw [e]
      apply w_runF
      · rfl
      · walk_at "ze"
      repeat walk_at "zs"
      walk_at "zk0d"
      · exact hseq
      repeat walk_at "zs"
      with_reducible apply w_fn1
      · exact sq_len hs
      repeat walk_at "zs"
      refine ⟨fun _ => ?_, fun z => ?_⟩
      · repeat walk_at "zs"
        exact ⟨rfl, rfl⟩
      · exfalso
        have : ((itsD x).length : Int) = 3 := by simpa using z
        omega
end My

namespace My
open PySem PySem.Spec PyProof.Rows L2 DL
local macro_rules | `(tactic| walk_at "zs") => `(tactic| (with_reducible apply DL.s_raise))
local macro_rules | `(tactic| walk_at "zs") => `(tactic| (with_reducible apply DL.w_aone))
/-! OG: kinds checked and told, what is let -/
def kindsOk (cols : List Int) (d : D) : Bool := sqB d && (itsD d).all (kindB cols)
def kindsR (xs : List D) : List (List Int) := sortT (ddR (xs.map numsOf))
abbrev nokX (d : D) : Exn := ⟨"NoKind", ["kind"], [d]⟩
def okD3 (d : D) : Prop := okTy d ∧ (itsD d).length ≤ 1000 ∧ ∀ x ∈ itsD d, okTy x ∧ ∀ y ∈ itsD x, okTy y
theorem p_check_kindsO (cols : List Int) (checks : List Chk) (xs : List D) (hl : xs.length ≤ 1000) (hi : ∀ x ∈ xs, okTy x ∧ ∀ y ∈ itsD x, okTy y) (hk : ∀ x ∈ xs, kindB cols x = true) :
    wpE m_check_kinds [.ow (bookO cols checks), .ow (.lst xs)] (RDs [.ow (bookO cols checks), .ow (.lst xs)] (eTs (kindsR xs))) NX := by
  apply w_runF
  · rfl
  · walk_at "ze"
  repeat walk_at "zs"
  walk_at "zkSd"
  · exact p_is_seqO xs
  repeat walk_at "zs"
  with_reducible apply c_map (enc := fun x : D => x) xs (fun _ => .bl true)
  · simp
  · walk_at "ze"
  · walk_at "ze"
  · exact line_of (by omega)
  · intro x hx
    refine ⟨_, rfl, ?_⟩
    repeat walk_at "zs"
    walk_at "zkSd"
    · exact p_is_kindD cols checks x (hi x hx).1 (hi x hx).2
    rw [hk x hx]
    repeat walk_at "zs"
    exact ⟨rfl, by walk_at "ze"⟩
  repeat walk_at "zs"
  with_reducible apply d_inv (enc := fun x : D => x) (fun pre acc e => acc = (ddR (pre.map numsOf)).map prT ∧ e = [.ow (bookO cols checks), .lk (.lst xs), .no]) (xs)
  · simp
  · walk_at "ze"
  · exact ⟨rfl, rfl⟩
  · rintro pre r post acc _ hx ⟨rfl, rfl⟩
    have hl2 : (ddR (pre.map numsOf)).length ≤ 1000 := by
      have := ddF_len (pre.map numsOf) []
      unfold ddR
      have h2 := congrArg List.length hx
      rw [List.length_append] at h2
      simp at this
      omega
    have hrk := hk r (by rw [hx]; simp)
    obtain ⟨_, hf⟩ := kindB_form hrk
    have hput : putD true ((ddR (pre.map numsOf)).map prT) (eT (numsOf r)) (.bl true) = (ddR ((pre ++ [r]).map numsOf)).map prT := by
      rw [put_dd, List.map_append]
      unfold ddR
      rw [List.foldl_append]; rfl
    refine ⟨_, rfl, ?_⟩
    rcases hf with q | q
    all_goals
      generalize numsOf r = k at *
      subst q
      repeat walk_at "zs"
      refine ⟨?_, ?_, hput, by walk_at "ze"⟩
      · show (tkeyD (eT k)).isSome = true
        rw [tkey_eT]; rfl
      · rw [List.length_map]
        exact Nat.lt_of_le_of_lt hl2 (by decide)
  · rintro _ _ ⟨rfl, rfl⟩
    walk_at "zg"
    repeat walk_at "zs"
    rw [show List.map (fun x : D × D => x.1) ((ddR ((xs).map numsOf)).map prT) = (ddR ((xs).map numsOf)).map eT by rw [List.map_map]; rfl]
    with_reducible apply w_sortT
    · rfl
    · refine .inl fun r hr hn => ?_
      obtain ⟨y, hy, e2⟩ := List.mem_map.mp (mem_ddR.mp hr)
      obtain ⟨c, o, n, e, _⟩ := mem_kindsF (kindB_form (hk y hy)).1
      rw [e2, hn] at e
      cases e
    repeat walk_at "zs"
    exact ⟨rfl, rfl⟩
theorem p_told_kindsO (cols : List Int) (checks : List Chk) (xs : List D) (hl : xs.length ≤ 1000) (hi : ∀ x ∈ xs, okTy x ∧ ∀ y ∈ itsD x, okTy y) (hk : ∀ x ∈ xs, kindB cols x = true) :
    wpE m_told_kinds [.ow (bookO cols checks), .ow (.lst xs)] (RDs [.ow (bookO cols checks), .ow (.lst xs)] (eTs (kindsR xs))) NX := by
  apply w_runF
  · rfl
  · walk_at "ze"
  repeat walk_at "zs"
  with_reducible apply w_isN
  · rfl
  · rfl
  repeat walk_at "zs"
  refine br_of (c := false) rfl (br_f ?_)
  repeat walk_at "zs"
  walk_at "zkSd"
  · exact p_check_kindsO cols checks xs hl hi hk
  repeat walk_at "zs"
  exact ⟨rfl, rfl⟩
/-- how an argument is handed over -/
def dataS (s : SV) : Prop := (∃ d, s = .sh d) ∨ ∃ xs, s = .ow (.lst xs)
end My

namespace My
open PySem PySem.Spec PyProof.Rows L2 DL
/-! RA: k08's stores, states, sorted orders, ways -/
abbrev eLl (l : Laid) : D := .tup [.int l.1, eL l.2]
theorem okN_ints (n : Nat) (xs : List Int) : okN (n + 1) (.lst (xs.map .int)) = true := by
  rw [okN_lst]
  exact List.all_eq_true.mpr fun d hd => by
    obtain ⟨z, _, rfl⟩ := List.mem_map.mp hd
    exact okN_int
theorem okN_eLl (n : Nat) (l : Laid) : okN (n + 2) (eLl l) = true := by
  rw [okN_tup, List.all_cons, List.all_cons, okN_int, okN_ints n]
  rfl
theorem okN_eCL (n : Nat) (c : Chk) : okN (n + 3) (eCL c) = true := by
  rw [show eCL c = .tup [eT c.1, eLs c.2] from rfl, okN_tup, List.all_cons, List.all_cons, okN_tupI (n + 1), show eLs c.2 = .lst (c.2.map eT) from rfl, okN_lst]
  rw [show (c.2.map eT).all (okN (n + 1)) = true from List.all_eq_true.mpr fun d hd => by
    obtain ⟨r, _, rfl⟩ := List.mem_map.mp hd
    exact okN_tupI n r]
  rfl
theorem okN_LL (cells : List Int → Int → List Int) (x : List Int × List Int) : okN 60 (.lst (x.2.map fun p => eL (cells x.1 p))) = true := by
  rw [okN_lst]
  exact List.all_eq_true.mpr fun d hd => by
    obtain ⟨z, _, rfl⟩ := List.mem_map.mp hd
    exact okN_ints 58 _
theorem v_goodL (cols : List Int) (checks : List Chk) (cells st : List Int) (laid : List Laid) (S : StOk cols checks cells laid) (hl : st.length = cells.length) (hoC : ∀ c ∈ checks, okC c) :
    wpE m__law_good [.sh (.lst (checks.map eCL)), .sh (.lst (laid.map eLl)), .ow (.lst (st.map .int))] (RDs [.sh (.lst (checks.map eCL)), .sh (.lst (laid.map eLl)), .ow (.lst (st.map .int))] (.bl (goodS checks laid st))) NX := by
  have h8 := S.c8
  have l4 := S.l4
  apply w_runF
  · rfl
  · walk_at "ze"
  repeat walk_at "zs"
  with_reducible apply c_pure (enc := eLl) laid (fun l => !(chkAt checks l).2.contains (rowOn st l.2)) eLl
  walk_at "zc"
  · intro l hlm
    have L := S.lv l hlm
    refine ⟨_, rfl, ?_⟩
    have h3 : l.2.length ≤ 1000 := by
      have := L.len
      have h := hoC _ (chk_in L)
      have := h.1
      omega
    repeat walk_at "zs"
    with_reducible apply c_map (enc := D.int) l.2 (fun c => .int (atZ st c))
    walk_at "zc"
    · intro c hc
      have hcr := mem_rgI (L.mem c hc)
      rw [← hl] at hcr
      refine ⟨_, rfl, ?_⟩
      repeat walk_at "zs"
      walk_at "zme"
    rw [show l.2.map (fun c => D.int (atZ st c)) = (rowOn st l.2).map D.int by unfold rowOn; rw [List.map_map]; rfl]
    repeat walk_at "zs"
    with_reducible apply w_ix (x := eCL (chkAt checks l))
    · rfl
    · rfl
    · rfl
    · exact atI_map L.c0
    repeat walk_at "zs"
    walk_at "zpf"
  repeat walk_at "zs"
  with_reducible apply w_eqNil
  · rfl
  · rfl
  · exact List.all_eq_true.mpr fun d hd => by
      obtain ⟨l, _, rfl⟩ := List.mem_map.mp hd
      exact okN_eLl 57 l
  rw [show (List.map eLl (laid.filter fun l => !(chkAt checks l).2.contains (rowOn st l.2))).isEmpty = goodS checks laid st by rw [List.isEmpty_map]; exact filt_all _ laid]
  repeat walk_at "zs"
  exact ⟨rfl, rfl⟩
theorem setF_step {st goal pre : List Int} {i : Int} (hi : i ∈ rgI st.length) : ((setF st goal pre).map D.int).set i.toNat (.int (atZ goal i)) = (setF st goal (pre ++ [i])).map D.int := by
  have h := mem_rgI hi
  unfold setF rgI
  refine List.ext_getElem (by simp) fun j h1 h2 => ?_
  have hj : j < st.length := by simpa using h2
  rw [List.getElem_set]
  by_cases e : i.toNat = j
  · rw [if_pos e]
    simp only [List.map_map, List.getElem_map, List.getElem_range, Function.comp]
    have e2 : ((j : Nat) : Int) = i := by omega
    rw [e2]
    simp
  · rw [if_neg e]
    simp only [List.map_map, List.getElem_map, List.getElem_range, Function.comp]
    have e2 : ((j : Nat) : Int) ≠ i := by omega
    simp [e2]
def spotF (cells : List Int) (p : Int) : List Int := (rgI cells.length).filter fun i => decide (atZ cells i = p)
theorem mem_spot {cells : List Int} {p i : Int} : i ∈ spotF cells p ↔ i ∈ rgI cells.length ∧ atZ cells i = p := by
  unfold spotF
  rw [List.mem_filter, decide_eq_true_eq]
theorem spot_len (cells : List Int) (p : Int) : (spotF cells p).length ≤ cells.length := by
  unfold spotF
  have := List.length_filter_le (fun i => decide (atZ cells i = p)) (rgI cells.length)
  rw [rgI_length] at this
  exact this
theorem atZ_lt {xs ys : List Int} {j : Nat} (h : j < xs.length) : atZ (xs ++ ys) (j : Int) = atZ xs (j : Int) := by
  unfold atZ
  rw [Int.toNat_natCast, List.getD_eq_getElem?_getD, List.getD_eq_getElem?_getD, List.getElem?_append_left h]
theorem atZ_end (xs : List Int) (x : Int) : atZ (xs ++ [x]) (xs.length : Int) = x := by
  unfold atZ
  rw [Int.toNat_natCast, List.getD_eq_getElem?_getD, List.getElem?_append_right (Nat.le_refl _), Nat.sub_self]
  rfl
theorem hasD_spots (cells ps : List Int) : hasD (.lst []) (ps.map fun p => eL (spotF cells p)) = ps.any fun p => (spotF cells p).isEmpty := by
  unfold hasD
  induction ps with
  | nil => rfl
  | cons p ps ih =>
    rw [List.map_cons, List.any_cons, List.any_cons, ih]
    congr 1
    cases h : spotF cells p with
    | nil => simp [eqvD, pd, pdL, PyData.eqv, PyData.eqvAll]
    | cons x xs => simp [eqvD, pd, pdL, PyData.eqv, PyData.eqvAll]
theorem v_storeL (b : Int × Int) (cols : List Int) (checks : List Chk) (h1 : 1 ≤ cols.length) (h3 : cols.length ≤ 4) (hk6 : checks.length ≤ 6) (hkk : ∀ c ∈ checks, okK cols c) :
    wpE m__law_store [.ow (boxO b), .sh (eT cols), .sh (.lst (checks.map eCL))] (fun v a => ∃ (cells : List Int) (laid : List Laid) (b' : Int × Int), v = .d (.tup [eL cells, .lst (laid.map eLl)]) ∧ a = [.ow (boxO b'), .sh (eT cols), .sh (.lst (checks.map eCL))] ∧ StOk cols checks cells laid) NX := by
  apply w_runF
  · rfl
  · walk_at "ze"
  with_reducible refine s_cut (fun e => ∃ (b : Int × Int) (cells : List Int), e = [.ow (boxO b), .sh (eT cols), .sh (.lst (checks.map eCL)), .ow (.lst (cells.map .int)), .ow (.lst []), .no, .no, .no, .no, .no, .no] ∧ 2 ≤ cells.length ∧ cells.length ≤ 6 ∧ ∀ c ∈ cells, 0 ≤ c ∧ c < (cols.length : Int)) ?_ ?_
  · repeat walk_at "zs"
    walk_at "zk1"
    · exact v_takeW b 5 (by decide) (by decide)
    rintro _ _ ⟨m, b1, rfl, rfl, hm0, hm1⟩
    refine ⟨rfl, ?_⟩
    walk_at "zg"
    repeat walk_at "zs"
    with_reducible apply w_rng1 (n := (2 + m).toNat)
    · omega
    · omega
    with_reducible apply c_inv (enc := D.int) (fun pre acc e => ∃ (ns : List Int) (b : Int × Int), acc = ns.map .int ∧ ns.length = pre.length ∧ (∀ c ∈ ns, 0 ≤ c ∧ c < (cols.length : Int)) ∧ e = [.ow (boxO b), .sh (eT cols), .sh (.lst (checks.map eCL)), .no, .no, .no, .no, .no, .no, .no, .no]) (rgI (2 + m).toNat)
    walk_at "zci"
    · exact ⟨[], b1, rfl, rfl, by simp, rfl⟩
    · rintro pre x post acc _ hx ⟨ns, b2, rfl, hl, hc, rfl⟩
      have hpl : pre.length ≤ 7 := by have := congrArg List.length hx; rw [rgI_length, List.length_append] at this; omega
      refine ⟨_, rfl, ?_⟩
      repeat walk_at "zs"
      walk_at "zk1"
      · exact v_takeW b2 _ (by rw [List.length_map]; omega) (by rw [List.length_map]; omega)
      rintro _ _ ⟨m2, b3, rfl, rfl, hm20, hm21⟩
      rw [List.length_map] at hm21
      refine ⟨rfl, ?_⟩
      walk_at "zg"
      repeat walk_at "zs"
      refine ⟨by walk_at "zl", ns ++ [m2], b3, by rw [List.map_append]; rfl, by rw [List.length_append, List.length_append, hl]; rfl, fun c hcm => ?_, by walk_at "ze"⟩
      rcases List.mem_append.mp hcm with h | h
      · exact hc c h
      · rw [List.mem_singleton.mp h]; omega
    rintro _ _ ⟨cells, b2, rfl, hl, hc, rfl⟩
    rw [rgI_length] at hl
    walk_at "zg"
    repeat walk_at "zs"
    exact ⟨b2, cells, rfl, by omega, by omega, hc⟩
  rintro _ ⟨b, cells, rfl, hl2, hl6, hc⟩
  with_reducible refine s_cut (fun e => ∃ (b : Int × Int) (laid : List Laid) (g6 g7 g8 : SV), e = [.ow (boxO b), .sh (eT cols), .sh (.lst (checks.map eCL)), .ow (.lst (cells.map .int)), .ow (.lst (laid.map eLl)), g6, g7, g8, .no, .no, .no] ∧ laid.length ≤ 5 ∧ ∀ l ∈ laid, LaidOk checks cells l) ?_ ?_
  · repeat walk_at "zs"
    with_reducible apply w_neNil
    · rfl
    · rfl
    · exact List.all_eq_true.mpr fun d hd => by
        obtain ⟨c, _, rfl⟩ := List.mem_map.mp hd
        exact okN_eCL 56 c
    repeat walk_at "zs"
    refine ⟨fun hb => ?_, fun hb => ?_⟩
    · have hk1 : 1 ≤ checks.length := by
        cases checks with
        | nil => cases hb
        | cons c cs => simp
      repeat walk_at "zs"
      walk_at "zk1"
      · exact v_takeW b 6 (by decide) (by decide)
      rintro _ _ ⟨m3, b3, rfl, rfl, hm30, hm31⟩
      refine ⟨rfl, ?_⟩
      walk_at "zg"
      repeat walk_at "zs"
      with_reducible apply w_rng1 (n := m3.toNat)
      · omega
      · omega
      with_reducible apply f_loop (enc := D.int) (fun pre e => ∃ (b : Int × Int) (laid : List Laid) (g6 g7 g8 : SV), e = [.ow (boxO b), .sh (eT cols), .sh (.lst (checks.map eCL)), .ow (.lst (cells.map .int)), .ow (.lst (laid.map eLl)), g6, g7, g8, .no, .no, .no] ∧ laid.length ≤ pre.length ∧ ∀ l ∈ laid, LaidOk checks cells l) (rgI m3.toNat)
      walk_at "zci"
      · exact ⟨b3, [], _, _, _, rfl, Nat.le_refl _, by simp⟩
      · rintro pre t post _ hx ⟨b4, laid, g6, g7, g8, rfl, hll, hlk⟩
        have hpl : pre.length ≤ 5 := by have := congrArg List.length hx; rw [rgI_length, List.length_append] at this; omega
        refine ⟨_, rfl, ?_⟩
        repeat walk_at "zs"
        walk_at "zk1"
        · exact v_takeW b4 _ (by rw [List.length_map]; omega) (by rw [List.length_map]; omega)
        rintro _ _ ⟨ck, b5, rfl, rfl, hck0, hck1⟩
        rw [List.length_map] at hck1
        refine ⟨rfl, ?_⟩
        walk_at "zg"
        have hckm : checks.getD ck.toNat default ∈ checks := by
          rw [List.getD_eq_getElem?_getD, List.getElem?_eq_getElem (by omega)]
          exact List.getElem_mem _
        obtain ⟨q1, q2, q3, q4, q5⟩ := hkk _ hckm
        repeat walk_at "zs"
        with_reducible apply w_ix (x := eCL (checks.getD ck.toNat default))
        · rfl
        · rfl
        · rfl
        · exact atI_map ⟨hck0, hck1⟩
        generalize hcc : checks.getD ck.toNat default = c at *
        repeat walk_at "zs"
        with_reducible apply c_map (enc := D.int) c.1 (fun p => eL (spotF cells p))
        walk_at "zc"
        · intro p hp
          refine ⟨_, rfl, ?_⟩
          repeat walk_at "zs"
          with_reducible apply c_pure (enc := D.int) (rgI cells.length) (fun i => decide (atZ cells i = p)) D.int
          walk_at "zc"
          · intro i hi
            have hi := mem_rgI hi
            refine ⟨_, rfl, ?_⟩
            repeat walk_at "zs"
            walk_at "zpf"
          repeat walk_at "zs"
          exact ⟨rfl, by walk_at "ze"⟩
        repeat walk_at "zs"
        with_reducible apply w_ni2 (a := .lst []) (b := .lst (c.1.map fun p => eL (spotF cells p)))
        · intro _ _ z; cases z
        · rfl
        · rfl
        · exact okIn_of (by rfl) (okN_LL spotF (cells, c.1)) rfl
        rw [its_lst, hasD_spots]
        repeat walk_at "zs"
        refine ⟨fun hb => ?_, fun hb => ?_⟩
        · have hall : ∀ p ∈ c.1, spotF cells p ≠ [] := fun p hp he => by
            have : (c.1.any fun p => (spotF cells p).isEmpty) = true := List.any_eq_true.mpr ⟨p, hp, by rw [he]; rfl⟩
            rw [this] at hb
            cases hb
          repeat walk_at "zs"
          with_reducible apply c_inv (enc := fun p => eL (spotF cells p)) (fun pre acc e => ∃ (ns : List Int) (b : Int × Int), acc = ns.map .int ∧ ns.length = pre.length ∧ (∀ j : Nat, j < pre.length → atZ ns (j : Int) ∈ spotF cells (atZ pre (j : Int))) ∧ e = [.ow (boxO b), .sh (eT cols), .sh (.lst (checks.map eCL)), .ow (.lst (cells.map .int)), .ow (.lst (laid.map eLl)), .sh (.int t), .sh (.int ck), .lk (.lst (c.1.map fun p => eL (spotF cells p))), .no, .no, .no]) c.1
          walk_at "zci"
          · exact ⟨[], b5, rfl, rfl, fun j hj => (by cases hj), rfl⟩
          · rintro pre p post acc _ hx ⟨ns, b6, rfl, hnl, hns, rfl⟩
            have hpm : p ∈ c.1 := by rw [hx]; simp
            have hsl := spot_len cells p
            have hpl : pre.length ≤ 3 := by rw [hx, List.length_append] at q2; omega
            refine ⟨_, rfl, ?_⟩
            repeat walk_at "zs"
            walk_at "zk1"
            · exact v_pickI b6 (spotF cells p) (List.length_pos_iff.mpr (hall p hpm)) (by omega)
            rintro _ _ ⟨z, b7, rfl, rfl, hz⟩
            refine ⟨rfl, ?_⟩
            walk_at "zg"
            repeat walk_at "zs"
            refine ⟨by walk_at "zl", ns ++ [z], b7, by rw [List.map_append]; rfl, by rw [List.length_append, List.length_append, hnl]; rfl, fun j hj => ?_, by walk_at "ze"⟩
            rw [List.length_append, List.length_singleton] at hj
            by_cases hlt : j < pre.length
            · rw [atZ_lt (xs := ns) (by omega), atZ_lt (xs := pre) hlt]; exact hns j hlt
            · have : j = pre.length := by omega
              subst this
              rw [atZ_end pre p, ← hnl, atZ_end ns z]
              exact hz
          rintro _ _ ⟨ns, b6, rfl, hnl, hns, rfl⟩
          walk_at "zg"
          repeat walk_at "zs"
          refine ⟨b6, laid ++ [(ck, ns)], _, _, _, by rw [List.map_append]; rfl, by rw [List.length_append, List.length_append]; simp; omega, fun l hlm => ?_⟩
          rcases List.mem_append.mp hlm with h | h
          · exact hlk l h
          · rw [List.mem_singleton.mp h]
            refine ⟨⟨hck0, hck1⟩, by show ns.length = (checks.getD ck.toNat default).1.length; rw [hcc]; exact hnl, fun j hj => ?_⟩
            have hj := mem_rgI hj
            have hj2 : j < ns.length := hj.2
            have := hns j.toNat (by omega)
            rw [show ((j.toNat : Nat) : Int) = j by omega] at this
            show atZ ns j ∈ rgI cells.length ∧ atZ cells (atZ ns j) = atZ (checks.getD ck.toNat default).1 j
            rw [hcc]
            exact mem_spot.mp this
        · repeat walk_at "zs"
          exact ⟨b5, laid, _, _, _, rfl, by rw [List.length_append]; omega, hlk⟩
      · rintro _ ⟨b4, laid, g6, g7, g8, rfl, hll, hlk⟩
        rw [rgI_length] at hll
        walk_at "zg"
        exact ⟨b4, laid, _, _, _, rfl, by omega, hlk⟩
    · repeat walk_at "zs"
      with_reducible apply f_loop (enc := D.int) (fun pre e => ∃ (b : Int × Int) (laid : List Laid) (g6 g7 g8 : SV), e = [.ow (boxO b), .sh (eT cols), .sh (.lst (checks.map eCL)), .ow (.lst (cells.map .int)), .ow (.lst (laid.map eLl)), g6, g7, g8, .no, .no, .no] ∧ laid.length ≤ pre.length ∧ ∀ l ∈ laid, LaidOk checks cells l) (rgI 0)
      walk_at "zci"
      · exact ⟨b, [], _, _, _, rfl, Nat.le_refl _, by simp⟩
      · rintro pre t post _ hx _
        have := congrArg List.length hx
        rw [List.length_append, List.length_cons] at this
        simp [rgI] at this
      · rintro _ ⟨b4, laid, g6, g7, g8, rfl, hll, hlk⟩
        walk_at "zg"
        exact ⟨b4, laid, _, _, _, rfl, by rw [rgI_length] at hll; omega, hlk⟩
  rintro _ ⟨b4, laid, g6, g7, g8, rfl, hll, hlk⟩
  repeat walk_at "zs"
  exact ⟨cells, laid, b4, rfl, rfl, ⟨by omega, by omega, hc, by omega, hlk⟩⟩
end My

namespace My
open PySem PySem.Spec PyProof.Rows L2 DL
/-! RB: k08's states, sorted orders, ways -/
theorem set_valid {cols cells st : List Int} (h : validR cols cells st) {i v : Int} (hi : i ∈ rgI cells.length) (hv : 0 ≤ v ∧ v < atZ cols (atZ cells i)) : ∃ st', (st.map D.int).set i.toNat (.int v) = st'.map D.int ∧ validR cols cells st' := by
  have hi2 := mem_rgI hi
  refine ⟨st.set i.toNat v, by rw [List.map_set], by rw [List.length_set]; exact h.1, fun j hj => ?_⟩
  have hjl : j < st.length := by rw [h.1]; exact hj
  have e : atZ (st.set i.toNat v) (j : Int) = if i.toNat = j then v else atZ st (j : Int) := by
    unfold atZ
    rw [Int.toNat_natCast, List.getD_eq_getElem?_getD, List.getD_eq_getElem?_getD, List.getElem?_set]
    by_cases q : i.toNat = j
    · rw [if_pos q, if_pos q, if_pos (by omega)]; rfl
    · rw [if_neg q, if_neg q]
  rw [e]
  split
  · rename_i q
    rw [show (j : Int) = i by omega]
    exact hv
  · exact h.2 j hj
theorem v_pickO (b : Int × Int) (xs : List D) (h : 0 < xs.length) (h2 : xs.length < 1073741824) : wpE m__law_pick [.ow (boxO b), .ow (.lst xs)] (fun v a => ∃ r b', v = .d r ∧ a = [.ow (boxO b'), .ow (.lst xs)] ∧ r ∈ xs) NX := by
  apply w_runF
  · rfl
  · walk_at "ze"
  repeat walk_at "zs"
  walk_at "zk1"
  · exact v_takeW b xs.length (by omega) (by omega)
  rintro _ _ ⟨r, b2, rfl, rfl, h0, h1⟩
  refine ⟨rfl, ?_⟩
  walk_at "zg"
  repeat walk_at "zs"
  with_reducible apply w_ix (x := xs[r.toNat]'(by omega))
  · rfl
  · rfl
  · rfl
  · show atI xs r = _
    rw [atI_of h0 (by omega)]
    exact List.getElem?_eq_getElem _
  repeat walk_at "zs"
  exact ⟨_, b2, rfl, rfl, List.getElem_mem _⟩
theorem v_statesL (b : Int × Int) (cols : List Int) (checks : List Chk) (cells : List Int) (laid : List Laid) (S : StOk cols checks cells laid) (hv : ∀ c ∈ cols, 1 ≤ c ∧ c ≤ 4) (hoC : ∀ c ∈ checks, okC c) :
    wpE m__law_states [.ow (boxO b), .sh (eT cols), .sh (.lst (checks.map eCL)), .sh (eL cells), .sh (.lst (laid.map eLl))] (fun v a => ∃ (f : List (List Int)) (b' : Int × Int), v = .new (.lst (f.map eT)) ∧ a = [.ow (boxO b'), .sh (eT cols), .sh (.lst (checks.map eCL)), .sh (eL cells), .sh (.lst (laid.map eLl))] ∧ (∀ s ∈ f, validR cols cells s ∧ goodS checks laid s = true) ∧ f.length ≤ 60) NX := by
  have h8 := S.c8
  have h1 := S.c1
  have colAt : ∀ c : Int, 0 ≤ c ∧ c < (cols.length : Int) → 0 < atZ cols c ∧ atZ cols c < 1073741824 := fun c hc => by have := hv _ (atZ_mem hc); omega
  apply w_runF
  · rfl
  · walk_at "ze"
  repeat walk_at "zs"
  with_reducible apply f_loop (enc := D.int) (fun pre e => ∃ (b : Int × Int) (f : List (List Int)) (g6 g7 g8 : SV), e = [.ow (boxO b), .sh (eT cols), .sh (.lst (checks.map eCL)), .sh (eL cells), .sh (.lst (laid.map eLl)), .ow (.lst (f.map eT)), g6, g7, g8, .no] ∧ (∀ s ∈ f, validR cols cells s ∧ goodS checks laid s = true) ∧ f.length ≤ pre.length) (rgI 60)
  · rfl
  · walk_at "ze"
  · exact ⟨b, [], _, _, _, rfl, by simp, Nat.le_refl _⟩
  · rintro pre t post _ hx ⟨b, f, g6, g7, g8, rfl, hf, hfl⟩
    have hpl : pre.length < 60 := by have := congrArg List.length hx; rw [rgI_length, List.length_append, List.length_cons] at this; omega
    refine ⟨_, rfl, ?_⟩
    with_reducible refine s_cut (fun e => ∃ (b : Int × Int) (st : List Int), e = [.ow (boxO b), .sh (eT cols), .sh (.lst (checks.map eCL)), .sh (eL cells), .sh (.lst (laid.map eLl)), .ow (.lst (f.map eT)), .sh (.int t), .ow (.lst (st.map .int)), g8, .no] ∧ validR cols cells st) ?_ ?_
    · repeat walk_at "zs"
      with_reducible apply c_inv (enc := D.int) (fun pre acc e => ∃ (ns : List Int) (b : Int × Int), acc = ns.map .int ∧ ns.length = pre.length ∧ (∀ j : Nat, j < pre.length → 0 ≤ atZ ns (j : Int) ∧ atZ ns (j : Int) < atZ cols (atZ pre (j : Int))) ∧ e = [.ow (boxO b), .sh (eT cols), .sh (.lst (checks.map eCL)), .sh (eL cells), .sh (.lst (laid.map eLl)), .ow (.lst (f.map eT)), .sh (.int t), g7, g8, .no]) cells
      walk_at "zci"
      · exact ⟨[], b, rfl, rfl, fun j hj => by simp at hj, rfl⟩
      · rintro pre x post acc _ hx ⟨ns, b9, rfl, hl, hcc, rfl⟩
        have hxm := S.cv x (by rw [hx]; simp)
        obtain ⟨ca, cb⟩ := colAt x hxm
        have hpl : pre.length ≤ 8 := by rw [hx, List.length_append] at h8; omega
        refine ⟨_, rfl, ?_⟩
        repeat walk_at "zs"
        walk_at "zk1"
        · exact v_takeW b9 _ ca cb
        rintro _ _ ⟨m5, b10, rfl, rfl, hm50, hm51⟩
        refine ⟨rfl, ?_⟩
        walk_at "zg"
        repeat walk_at "zs"
        refine ⟨by walk_at "zl", ns ++ [m5], b10, by rw [List.map_append]; rfl, by rw [List.length_append, List.length_append, hl]; rfl, fun j hj => ?_, by walk_at "ze"⟩
        rw [List.length_append, List.length_singleton] at hj
        by_cases q : j < pre.length
        · rw [atZ_lt (xs := ns) (by omega), atZ_lt (xs := pre) q]
          exact hcc j q
        · have : j = pre.length := by omega
          subst this
          rw [show ((pre.length : Nat) : Int) = (ns.length : Int) by omega, atZ_end ns m5, show ((ns.length : Nat) : Int) = (pre.length : Int) by omega, atZ_end pre x]
          exact ⟨hm50, hm51⟩
      rintro _ _ ⟨ns, b9, rfl, hnl, hns, rfl⟩
      walk_at "zg"
      repeat walk_at "zs"
      exact ⟨b9, ns, rfl, hnl, hns⟩
    rintro _ ⟨b, st, rfl, hst⟩
    with_reducible refine s_cut (fun e => ∃ (b : Int × Int) (st : List Int) (g8 : SV), e = [.ow (boxO b), .sh (eT cols), .sh (.lst (checks.map eCL)), .sh (eL cells), .sh (.lst (laid.map eLl)), .ow (.lst (f.map eT)), .sh (.int t), .ow (.lst (st.map .int)), g8, .no] ∧ validR cols cells st) ?_ ?_
    · repeat walk_at "zs"
      refine ⟨fun hb => ?_, fun hb => ?_⟩
      · have hfn : f ≠ [] := fun z => by rw [z] at hb; cases hb
        repeat walk_at "zs"
        walk_at "zk1"
        · exact v_takeW b 2 (by decide) (by decide)
        rintro _ _ ⟨m6, b10, rfl, rfl, hm60, hm61⟩
        refine ⟨rfl, ?_⟩
        walk_at "zg"
        repeat walk_at "zs"
        refine ⟨fun hb2 => ?_, fun hb2 => ?_⟩
        · repeat walk_at "zs"
          with_reducible apply w_callB
          · rfl
          · exact v_pickO b10 (f.map eT) (by rw [List.length_map]; exact List.length_pos_iff.mpr hfn) (by rw [List.length_map]; omega)
          rintro _ _ ⟨rd, b11, rfl, rfl, hrd⟩
          obtain ⟨s0, hs0, rfl⟩ := List.mem_map.mp hrd
          refine ⟨rfl, ?_⟩
          rw [show backL _ _ 0 _ = [.ow (boxO b11), .sh (eT cols), .sh (.lst (checks.map eCL)), .sh (eL cells), .sh (.lst (laid.map eLl)), .ow (.lst (f.map eT)), .sh (.int t), .ow (.lst (st.map .int)), g8, .no] from rfl]
          repeat walk_at "zs"
          walk_at "zk1"
          · exact v_takeW b11 _ (by rw [List.length_map]; omega) (by rw [List.length_map]; omega)
          rintro _ _ ⟨ci, b12, rfl, rfl, hc0, hc1⟩
          rw [List.length_map] at hc1
          have hci : ci ∈ rgI cells.length := in_rgI ⟨hc0, hc1⟩
          have hcv := S.cv _ (atZ_mem (xs := cells) ⟨hc0, hc1⟩)
          obtain ⟨ca, cb⟩ := colAt (atZ cells ci) hcv
          refine ⟨rfl, ?_⟩
          walk_at "zg"
          repeat walk_at "zs"
          walk_at "zk1"
          · exact v_takeW b12 _ ca cb
          rintro _ _ ⟨nv, b13, rfl, rfl, hn0, hn1⟩
          refine ⟨rfl, ?_⟩
          walk_at "zg"
          repeat walk_at "zs"
          have hv0 := (hf s0 hs0).1
          obtain ⟨st', e1, e2⟩ := set_valid hv0 hci ⟨hn0, hn1⟩
          with_reducible apply s_store
          · rfl
          · rw [List.length_map, hv0.1]; unfold ixN; rw [if_pos hc0, if_pos hc1]
          · exact ⟨b13, st', _, by rw [e1]; rfl, e2⟩
        · repeat walk_at "zs"
          exact ⟨b10, st, _, rfl, hst⟩
      · repeat walk_at "zs"
        exact ⟨b, st, _, rfl, hst⟩
    rintro _ ⟨b, st, g8, rfl, hst⟩
    repeat walk_at "zs"
    walk_at "zkSd"
    · exact v_goodL cols checks cells st laid S hst.1 hoC
    cases hgd : goodS checks laid st with
    | false =>
      repeat walk_at "zs"
      exact ⟨b, f, _, _, _, rfl, hf, by rw [List.length_append]; omega⟩
    | true =>
      repeat walk_at "zs"
      refine ⟨fun hb => ?_, fun hb => ?_⟩
      · repeat walk_at "zs"
        refine ⟨b, f ++ [st], _, _, _, by rw [List.map_append]; rfl, fun s hs => ?_, by rw [List.length_append, List.length_append]; simp; omega⟩
        rcases List.mem_append.mp hs with q | q
        · exact hf s q
        · rw [List.mem_singleton.mp q]
          exact ⟨hst, hgd⟩
      · repeat walk_at "zs"
        exact ⟨b, f, _, _, _, rfl, hf, by rw [List.length_append]; omega⟩
  · rintro _ ⟨b, f, g6, g7, g8, rfl, hf, hfl⟩
    rw [rgI_length] at hfl
    walk_at "zg"
    repeat walk_at "zs"
    exact ⟨f, b, rfl, rfl, hf, hfl⟩
/-- the cells of a batch in lots, each a layer's cells in some order -/
inductive Lots (cells st goal : List Int) : List (List (List Int)) → List (List Int) → Prop
  | nil : Lots cells st goal [] []
  | cons {L : List (List Int)} {Ls : List (List (List Int))} {p : List Int} {ps : List (List Int)} : p.Perm (grp cells st goal L) → Lots cells st goal Ls ps → Lots cells st goal (L :: Ls) (p :: ps)
theorem Lots.snoc {cells st goal : List Int} {Ls : List (List (List Int))} {ps : List (List Int)} (h : Lots cells st goal Ls ps) {L : List (List Int)} {p : List Int} (hp : p.Perm (grp cells st goal L)) : Lots cells st goal (Ls ++ [L]) (ps ++ [p]) := by
  induction h with
  | nil => exact .cons hp .nil
  | cons h1 _ ih => exact .cons h1 ih
theorem Lots.len {cells st goal : List Int} {Ls : List (List (List Int))} {ps : List (List Int)} (h : Lots cells st goal Ls ps) : ps.flatten.length ≤ st.length * Ls.length := by
  induction h with
  | nil => simp
  | @cons L Ls p ps h1 h2 ih =>
    rw [List.flatten_cons, List.length_append, List.length_cons, h1.length_eq, Nat.mul_succ]
    have a1 : (grp cells st goal L).length ≤ st.length := by
      unfold grp unlC
      refine Nat.le_trans (List.length_filter_le _ _) (Nat.le_trans (List.length_filter_le _ _) ?_)
      rw [rgI_length]; exact Nat.le_refl _
    omega
theorem x_mixedI (b : Int × Int) (ks : List Int) (h : ks.length ≤ 1000) : wpE m__law_mixed [.ow (boxO b), .sh (eL ks)] (fun v a => ∃ (order : List Int) (b' : Int × Int), v = .new (.lst (order.map D.int)) ∧ a = [.ow (boxO b'), .sh (eL ks)] ∧ order.Perm ks) NX := by
  apply w_runF
  · rfl
  · walk_at "ze"
  repeat walk_at "zs"
  with_reducible apply f_loop (enc := D.int) (fun pre e => ∃ (b' : Int × Int) (order left : List Int) (g : SV), e = [.ow (boxO b'), .sh (eL ks), .ow (.lst (order.map D.int)), .ow (.lst (left.map D.int)), g] ∧ order.length = pre.length ∧ left.length + pre.length = ks.length ∧ (order ++ left).Perm ks) (rgI ks.length)
  walk_at "zci"
  · exact ⟨b, [], ks, .no, rfl, rfl, rfl, List.Perm.refl _⟩
  · rintro pre t post _ hx ⟨b', order, left, g, rfl, h1, h2, h3⟩
    have hpl : pre.length < ks.length := by have := congrArg List.length hx; rw [rgI_length, List.length_append, List.length_cons] at this; omega
    refine ⟨_, rfl, ?_⟩
    repeat walk_at "zs"
    with_reducible apply w_call1 0 0
    · rfl
    · rfl
    · rfl
    · exact v_takeW b' _ (by simp only [List.length_map]; omega) (by simp only [List.length_map]; omega)
    rintro _ _ ⟨r, b2, rfl, rfl, hr0, hr1⟩
    simp only [List.length_map] at hr1
    refine ⟨rfl, ?_⟩
    walk_at "zg"
    repeat walk_at "zs"
    have hlt : r.toNat < left.length := by omega
    with_reducible apply w_popAt (x := D.int (left[r.toNat]'hlt))
    · rfl
    · exact hr0
    · simp only [List.length_map]; omega
    · rw [List.getElem?_map, List.getElem?_eq_getElem hlt]; rfl
    · simp only [List.length_map]; omega
    · walk_at "ze"
    repeat walk_at "zs"
    refine ⟨b2, order ++ [left[r.toNat]'hlt], left.eraseIdx r.toNat, .sh (.int t), ?_, ?_, ?_, ?_⟩
    · rw [List.map_append, er_map]; rfl
    · rw [List.length_append, List.length_append, h1]; rfl
    · rw [List.length_eraseIdx_of_lt hlt, List.length_append, List.length_singleton]; omega
    · rw [List.append_assoc]
      exact (List.Perm.append_left order (by rw [List.singleton_append]; exact perm_out left r.toNat hlt)).trans h3
  · rintro _ ⟨b', order, left, g, rfl, h1, h2, h3⟩
    walk_at "zg"
    repeat walk_at "zs"
    have hn : left = [] := by
      rw [rgI_length] at h2
      exact List.eq_nil_of_length_eq_zero (by omega)
    rw [hn, List.append_nil] at h3
    exact ⟨order, b', rfl, rfl, h3⟩
theorem grpL {cells st goal : List Int} {L : List (List Int)} (hl : st.length = cells.length) (hL : ∀ k ∈ L, atZ k 1 ≠ atZ k 2) : (rgI cells.length).filter (fun i => L.contains (kdAt cells st goal i)) = grp cells st goal L := by
  rw [grp_eq, hl]
  refine List.filter_congr fun i _ => ?_
  rw [Bool.eq_iff_iff]
  simp only [Bool.and_eq_true, decide_eq_true_eq, List.contains_iff_mem]
  exact ⟨fun h => ⟨h, hL _ h⟩, fun h => h.1⟩
theorem v_sortedL (b : Int × Int) (cells st goal : List Int) (Ls : List (List (List Int))) (h8 : cells.length ≤ 8) (hl : st.length = cells.length) (hg : goal.length = cells.length) (hLs : Ls.length ≤ 100) (hL : ∀ L ∈ Ls, ∀ k ∈ L, atZ k 1 ≠ atZ k 2) :
    wpE m__law_sorted [.ow (boxO b), .sh (eL cells), .sh (eT st), .sh (eT goal), .sh (.tup (Ls.map eTs))] (fun v a => ∃ b' : Int × Int, a = [.ow (boxO b'), .sh (eL cells), .sh (eT st), .sh (eT goal), .sh (.tup (Ls.map eTs))] ∧ (v = .d .non ∨ ∃ ps : List (List Int), Lots cells st goal Ls ps ∧ v = .new (.lst (ps.flatten.map .int)) ∧ ps.flatten.length = (unlC st goal).length)) NX := by
  apply w_runF
  · rfl
  · walk_at "ze"
  repeat walk_at "zs"
  with_reducible apply c_map (enc := D.int) (rgI cells.length) (fun i => eT (kdAt cells st goal i))
  walk_at "zc"
  · intro i hi
    have hi := mem_rgI hi
    refine ⟨_, rfl, ?_⟩
    repeat walk_at "zs"
    exact ⟨rfl, by walk_at "ze"⟩
  repeat walk_at "zs"
  with_reducible apply f_loop (enc := eTs) (fun pre e => ∃ (b : Int × Int) (ps : List (List Int)) (g7 : SV), e = [.ow (boxO b), .sh (eL cells), .sh (eT st), .sh (eT goal), .sh (.tup (Ls.map eTs)), .ow (.lst ((rgI cells.length).map fun i => eT (kdAt cells st goal i))), .ow (.lst (ps.flatten.map .int)), g7, .no] ∧ Lots cells st goal pre ps) Ls
  walk_at "zci"
  · exact ⟨b, [], _, rfl, .nil⟩
  · rintro pre L post _ hx ⟨b, ps, g7, rfl, hps⟩
    have hpre : pre.length ≤ 100 := by rw [hx, List.length_append] at hLs; omega
    have hLk := hL L (by rw [hx]; simp)
    have hpl := hps.len
    have hmul : st.length * pre.length ≤ 8 * 100 := Nat.mul_le_mul (by omega) hpre
    refine ⟨_, rfl, ?_⟩
    repeat walk_at "zs"
    with_reducible apply c_pure (enc := D.int) (rgI cells.length) (fun i => L.contains (kdAt cells st goal i)) D.int
    walk_at "zc"
    · intro i hi
      have hi := mem_rgI hi
      refine ⟨_, rfl, ?_⟩
      repeat walk_at "zs"
      with_reducible apply w_ix (x := eT (kdAt cells st goal i))
      · rfl
      · rfl
      · rfl
      · exact atI_rgI hi
      repeat walk_at "zs"
      walk_at "zpf"
    rw [grpL hl hLk]
    have a1 : (grp cells st goal L).length ≤ 8 := by
      unfold grp unlC
      refine Nat.le_trans (List.length_filter_le _ _) (Nat.le_trans (List.length_filter_le _ _) ?_)
      rw [rgI_length]; omega
    repeat walk_at "zs"
    walk_at "zk1"
    · exact x_mixedI b (grp cells st goal L) (by omega)
    rintro _ _ ⟨p, b2, rfl, rfl, hp⟩
    have hpl2 := hp.length_eq
    refine ⟨rfl, ?_⟩
    walk_at "zg"
    repeat walk_at "zs"
    with_reducible apply w_addL
    · rfl
    · rfl
    · refine line_of ?_
      simp only [List.length_map]; omega
    repeat walk_at "zs"
    exact ⟨b2, ps ++ [p], _, by rw [List.flatten_append, List.flatten_cons, List.flatten_nil, List.append_nil, List.map_append], hps.snoc hp⟩
  · rintro _ ⟨b, ps, g7, rfl, hps⟩
    walk_at "zg"
    repeat walk_at "zs"
    with_reducible apply c_pure (enc := D.int) (rgI cells.length) (fun i => !decide (atZ st i = atZ goal i)) D.int
    walk_at "zc"
    · intro i hi
      have hi := mem_rgI hi
      refine ⟨_, rfl, ?_⟩
      repeat walk_at "zs"
      walk_at "zpf"
    rw [show (rgI cells.length).filter (fun i => !decide (atZ st i = atZ goal i)) = unlC st goal from by unfold unlC; rw [hl]; exact List.filter_congr fun i _ => by simp]
    repeat walk_at "zs"
    refine ⟨fun hb => ?_, fun hb => ?_⟩
    · have hb : ps.flatten.length = (unlC st goal).length := by
        rw [List.length_map, List.length_map] at hb
        have : ((ps.flatten.length : Nat) : Int) = ((unlC st goal).length : Nat) := by simpa using hb
        omega
      repeat walk_at "zs"
      exact ⟨b, rfl, .inr ⟨ps, hps, rfl, hb⟩⟩
    · repeat walk_at "zs"
      exact ⟨b, rfl, .inl rfl⟩
theorem cut_int (xs : List Int) (n : Nat) : DL.cutD (xs.map D.int) none (some (n : Int)) = (xs.take n).map D.int := by
  unfold DL.cutD
  rw [HT.sIx_none, HT.sIx_nat, List.length_map, List.drop_zero, Nat.sub_zero, ← List.map_take]
  congr 1
  rcases Nat.le_total n xs.length with h | h
  · rw [Nat.min_eq_left h]
  · rw [Nat.min_eq_right h, List.take_length, List.take_of_length_le h]
theorem v_wayL (cols : List Int) (checks : List Chk) (cells st goal : List Int) (laid : List Laid) (order : List Int) (n : Nat) (S : StOk cols checks cells laid) (hoC : ∀ c ∈ checks, okC c) (hl : st.length = cells.length) (hg : goal.length = cells.length) (hd : ∀ i ∈ order, i ∈ rgI st.length) (hl2 : order.length ≤ 1000) (good : ∀ pre post, order.take n = pre ++ post → goodS checks laid (setF st goal pre) = true) :
    wpE m__law_way_right [.sh (.lst (checks.map eCL)), .sh (.lst (laid.map eLl)), .sh (eT st), .sh (eT goal), .ow (.lst (order.map .int)), .sh (.int n)] (RDs [.sh (.lst (checks.map eCL)), .sh (.lst (laid.map eLl)), .sh (eT st), .sh (eT goal), .ow (.lst (order.map .int)), .sh (.int n)] (eT (setF st goal (order.take n)))) NX := by
  have h8 := S.c8
  apply w_runF
  · rfl
  · walk_at "ze"
  repeat walk_at "zs"
  with_reducible apply w_psomeV
  repeat walk_at "zs"
  refine ⟨_, rfl, ?_⟩
  repeat walk_at "zs"
  rw [cut_int order n]
  repeat walk_at "zs"
  with_reducible apply f_loop (enc := D.int) (fun pre e => ∃ g, e = [.sh (.lst (checks.map eCL)), .sh (.lst (laid.map eLl)), .sh (eT st), .sh (eT goal), .ow (.lst (order.map .int)), .sh (.int n), .ow (.lst ((setF st goal pre).map D.int)), g]) (order.take n)
  walk_at "zci"
  · exact ⟨_, by rw [setF_nil]⟩
  · rintro pre i post _ hx ⟨g, rfl⟩
    have hi := hd i (List.mem_of_mem_take (by rw [hx]; simp))
    have h := mem_rgI hi
    have gd := good (pre ++ [i]) post (by rw [hx, List.append_assoc]; rfl)
    refine ⟨_, rfl, ?_⟩
    repeat walk_at "zs"
    with_reducible apply s_store
    · rfl
    · rw [List.length_map, setF_lenI]; unfold ixN; rw [if_pos h.1, if_pos h.2]
    show DL.wpS _ [.sh (.lst (checks.map eCL)), .sh (.lst (laid.map eLl)), .sh (eT st), .sh (eT goal), .ow (.lst (order.map .int)), .sh (.int n), .ow (.lst (((setF st goal pre).map D.int).set i.toNat (.int (atZ goal i)))), .sh (.int i)] _ _
    rw [setF_step hi]
    repeat walk_at "zs"
    walk_at "zkSd"
    · exact v_goodL cols checks cells (setF st goal (pre ++ [i])) laid S (by rw [setF_lenI]; exact hl) hoC
    rw [gd]
    repeat walk_at "zs"
    exact ⟨_, rfl⟩
  · rintro _ ⟨g, rfl⟩
    walk_at "zg"
    repeat walk_at "zs"
    exact ⟨rfl, rfl⟩
end My

namespace My
open PySem PySem.Spec PyProof.Rows L2 DL
/-! RC: batches sorted by layers, left off anywhere -/
def toldF (c : Chk) : Chk := (c.1, ssL c.2)
theorem letP_congr {f : Chk → Chk} (hf : ∀ c, (f c).1 = c.1 ∧ ∀ r, r ∈ (f c).2 ↔ r ∈ c.2) {cs : List Chk} {l : List (List Int)} {k : List Int} : letP (cs.map f) l k ↔ letP cs l k := by
  unfold letP
  constructor
  · intro h c hc one h1 other h2 hu lot hl
    obtain ⟨e1, e2⟩ := hf c
    have := h (f c) (List.mem_map.mpr ⟨c, hc, rfl⟩) one ((e2 one).mpr h1) other ((e2 other).mpr h2)
    unfold L3 at this
    rw [e1] at this
    exact (e2 _).mp (this hu lot hl)
  · intro h c' hc' one h1 other h2 hu lot hl
    obtain ⟨c, hc, rfl⟩ := List.mem_map.mp hc'
    obtain ⟨e1, e2⟩ := hf c
    rw [e1] at hu hl
    exact (e2 _).mpr (h c hc one ((e2 one).mp h1) other ((e2 other).mp h2) hu lot hl)
theorem letP_toldC {cs : List Chk} {l : List (List Int)} {k : List Int} : letP (cs.map toldC) l k ↔ letP cs l k := letP_congr (f := toldC) fun c => ⟨rfl, fun r => mem_toldC⟩
theorem mem_kindsR {xs : List D} {k : List Int} : k ∈ kindsR xs ↔ k ∈ xs.map numsOf := by
  unfold kindsR
  rw [mem_sortT, mem_ddR]
theorem kindsR_len (xs : List D) : (kindsR xs).length ≤ xs.length := by
  unfold kindsR ddR
  rw [(sortT_perm _).length_eq]
  have := ddF_len (xs.map numsOf) []
  rw [List.length_map] at this
  simpa using this
theorem item_ok {x : D} {k : List Int} (h : x = eT k ∨ x = eL k) : okTy x ∧ ∀ y ∈ itsD x, okTy y := by
  rcases h with rfl | rfl
  · exact ⟨rfl, fun y hy => by obtain ⟨i, _, rfl⟩ := List.mem_map.mp hy; rfl⟩
  · exact ⟨rfl, fun y hy => by obtain ⟨i, _, rfl⟩ := List.mem_map.mp hy; rfl⟩
/-- a list of kinds, as data -/
def KsD (cols : List Int) (xs : List D) (l : List (List Int)) : Prop := xs.length ≤ 200 ∧ (∀ x ∈ xs, ∃ k ∈ kindsF cols, x = eT k ∨ x = eL k) ∧ ∀ k, k ∈ xs.map numsOf ↔ k ∈ l
theorem KsD.it {cols : List Int} {xs : List D} {l : List (List Int)} (h : KsD cols xs l) : (∀ x ∈ xs, okTy x ∧ ∀ y ∈ itsD x, okTy y) ∧ ∀ x ∈ xs, kindB cols x = true :=
  ⟨fun x hx => by obtain ⟨k, _, q⟩ := h.2.1 x hx; exact item_ok q, fun x hx => by obtain ⟨k, hk, q⟩ := h.2.1 x hx; exact (kindB_of hk x q).1⟩
theorem ksD_map {cols : List Int} {l : List (List Int)} (hl : l.length ≤ 200) (h : ∀ k ∈ l, k ∈ kindsF cols) : KsD cols (l.map eT) l :=
  ⟨by rw [List.length_map]; exact hl, fun x hx => by obtain ⟨k, hk, rfl⟩ := List.mem_map.mp hx; exact ⟨k, h k hk, .inl rfl⟩, fun k => by
    rw [List.map_map]
    have : l.map (numsOf ∘ eT) = l := by
      refine (List.map_congr_left fun q hq => ?_).trans (List.map_id l)
      exact (kindB_of (h q hq) (eT q) (.inl rfl)).2
    rw [this]⟩
theorem layN_told {cs : List Chk} : ∀ (n : Nat) (l : List (List Int)), layN (cs.map toldC) n l = layN cs n l
  | 0, _ => rfl
  | n + 1, l => by
    have e : (fun k => decide (letP (cs.map toldC) l k)) = fun k => decide (letP cs l k) := funext fun k => by rw [decide_eq_decide]; exact letP_toldC
    have e2 : stepR (cs.map toldC) l = stepR cs l := by
      unfold stepR
      refine List.filter_congr fun k _ => ?_
      rw [decide_eq_decide.mpr letP_toldC]
    unfold layN
    rw [e, e2, layN_told n (stepR cs l)]
theorem layN_len (checks : List Chk) : ∀ (n : Nat) (l : List (List Int)), (layN checks n l).length ≤ n
  | 0, _ => Nat.le_refl _
  | n + 1, l => by
    unfold layN
    split
    · exact Nat.zero_le _
    · rw [List.length_cons]
      exact Nat.succ_le_succ (layN_len checks n _)
theorem unlC_ndL (st goal : List Int) : (unlC st goal).Nodup := by
  unfold unlC
  exact (rgI_nd _).sublist List.filter_sublist
section
variable {cols : List Int} {checks : List Chk} {cells : List Int} {laid : List Laid} {st goal : List Int}
theorem lay_nd : ∀ (n : Nat) (l : List (List Int)), ((layN checks n l).flatMap (grp cells st goal)).Nodup
  | 0, _ => List.nodup_nil
  | n + 1, l => by
    unfold layN
    split
    · exact List.nodup_nil
    · rw [List.flatMap_cons, List.nodup_append]
      refine ⟨(unlC_ndL st goal).sublist List.filter_sublist, lay_nd n _, fun a ha b hb e => ?_⟩
      subst e
      obtain ⟨L, hL, h2⟩ := List.mem_flatMap.mp hb
      have h3 := layN_sub n _ L hL _ (mem_grp.mp h2).2
      have h4 := (List.mem_filter.mp (mem_grp.mp ha).2).2
      have h5 := (List.mem_filter.mp h3).2
      simp_all
theorem Lots.perm {Ls : List (List (List Int))} {ps : List (List Int)} (h : Lots cells st goal Ls ps) : ps.flatten.Perm (Ls.flatMap (grp cells st goal)) := by
  induction h with
  | nil => exact .refl _
  | cons h1 _ ih =>
    rw [List.flatten_cons, List.flatMap_cons]
    exact h1.append ih
theorem way_aux (S : StOk cols checks cells laid) (hr : ∀ c ∈ checks, ∀ r ∈ c.2, r.length = c.1.length) (hl : st.length = cells.length) (g1 : goodS checks laid st = true) (g2 : goodS checks laid goal = true) {n : Nat} {l : List (List Int)} (hu : ∀ i ∈ unlC st goal, kdAt cells st goal i ∈ l)
    {Ls : List (List (List Int))} {ps : List (List Int)} (h : Lots cells st goal Ls ps) : ∀ Ls0 : List (List (List Int)), layN checks n l = Ls0 ++ Ls → ∀ pre post : List Int, pre ≠ [] → ps.flatten = pre ++ post → goodS checks laid (setF st goal (Ls0.flatMap (grp cells st goal) ++ pre)) = true := by
  induction h with
  | nil => exact fun Ls0 _ pre post hne e => absurd (List.append_eq_nil_iff.mp e.symm).1 hne
  | cons h1 h2 ih =>
    rename_i L Ls p ps
    intro Ls0 e0 pre post hne e
    have part : ∀ pre2 post2 : List Int, p = pre2 ++ post2 → goodS checks laid (setF st goal (Ls0.flatMap (grp cells st goal) ++ pre2)) = true := fun pre2 post2 e2 =>
      plan_good S hr g2 n l st hl g1 hu Ls0 L Ls e0 pre2 fun i hi => h1.mem_iff.mp (by rw [e2]; exact List.mem_append_left _ hi)
    rw [List.flatten_cons] at e
    rcases List.append_eq_append_iff.mp e with ⟨a, e1, e2⟩ | ⟨a, e1, e2⟩
    · cases a with
      | nil => exact part pre [] (by rw [e1]; simp)
      | cons x a =>
        have := ih (Ls0 ++ [L]) (by rw [e0, List.append_assoc]; rfl) (x :: a) post (by simp) e2
        rw [e1]
        rw [setF_ext (m := (Ls0 ++ [L]).flatMap (grp cells st goal) ++ x :: a) fun i _ => ?_]
        · exact this
        · simp only [List.mem_append, List.flatMap_append, List.flatMap_cons, List.flatMap_nil, List.append_nil, h1.mem_iff]
          exact or_assoc.symm
    · exact part pre a e1
theorem way_good (S : StOk cols checks cells laid) (hr : ∀ c ∈ checks, ∀ r ∈ c.2, r.length = c.1.length) (hl : st.length = cells.length) (g1 : goodS checks laid st = true) (g2 : goodS checks laid goal = true) {n : Nat} {l : List (List Int)} (hu : ∀ i ∈ unlC st goal, kdAt cells st goal i ∈ l)
    {ps : List (List Int)} (h : Lots cells st goal (layN checks n l) ps) (pre post : List Int) (e : ps.flatten = pre ++ post) : goodS checks laid (setF st goal pre) = true := by
  cases pre with
  | nil => rw [setF_nil]; exact g1
  | cons x pre => exact way_aux S hr hl g1 g2 hu h [] rfl (x :: pre) post (by simp) e
theorem way_all (hg : goal.length = st.length) {n : Nat} {l : List (List Int)} {ps : List (List Int)} (h : Lots cells st goal (layN checks n l) ps) (hlen : ps.flatten.length = (unlC st goal).length) : setF st goal ps.flatten = goal := by
  have hn : ps.flatten.Nodup := h.perm.nodup_iff.mpr (lay_nd n l)
  have hs : ∀ i ∈ ps.flatten, i ∈ unlC st goal := fun i hi => by
    obtain ⟨L, _, h2⟩ := List.mem_flatMap.mp (h.perm.mem_iff.mp hi)
    exact (mem_grp.mp h2).1
  refine set_goal hg fun i hi => Classical.byContradiction fun hc => ?_
  have := nodup_len (unlC st goal) (i :: ps.flatten) (List.nodup_cons.mpr ⟨hc, hn⟩) fun r hr => by
    rcases List.mem_cons.mp hr with q | q
    · rw [q]; exact hi
    · exact hs r q
  rw [List.length_cons] at this
  omega
theorem unl_sub {dn : List Int} {i : Int} (h : i ∈ unlC (setF st goal dn) goal) : i ∈ unlC st goal ∧ kdAt cells (setF st goal dn) goal i = kdAt cells st goal i := by
  obtain ⟨h1, h2⟩ := mem_unlC.mp h
  rw [setF_lenI] at h1
  rw [setF_atI h1] at h2
  by_cases q : i ∈ dn
  · rw [if_pos q] at h2; exact absurd rfl h2
  · rw [if_neg q] at h2
    refine ⟨mem_unlC.mpr ⟨h1, h2⟩, ?_⟩
    unfold kdAt
    rw [setF_atI h1, if_neg q]
theorem unl_kind (S : StOk cols checks cells laid) (v1 : validR cols cells st) (v2 : validR cols cells goal) : ∀ i ∈ unlC st goal, kdAt cells st goal i ∈ kindsF cols := fun i hi => by
  obtain ⟨h1, h2⟩ := mem_unlC.mp hi
  rw [v1.1] at h1
  exact kdAt_kind S.cv v1 v2 h1 h2
end
theorem kinds_two {cols k : List Int} (h : k ∈ kindsF cols) : atZ k 1 ≠ atZ k 2 := by
  obtain ⟨c, o, n, rfl, _, _, _, hne⟩ := mem_kindsF h
  exact fun z => hne (show o = n from z).symm
theorem q_layersK (cols : List Int) (checks : List Chk) (ks : List (List Int)) (hc : ∀ c ∈ checks, okT c) (hn : checks.length ≤ 100) (hl : ks.length ≤ 100) (hk : ∀ k ∈ ks, k ∈ kindsF cols) :
    wpE m_layers_of [.ow (bookO cols checks), .ow (.lst (ks.map eT))] (RDs [.ow (bookO cols checks), .ow (.lst (ks.map eT))] (.tup ((layF checks (kindsR (ks.map eT))).map eTs))) NX := by
  have q := ksD_map (cols := cols) (l := ks) (by omega) hk
  have hR := kindsR_len (ks.map eT)
  rw [List.length_map] at hR
  apply w_runF
  · rfl
  · walk_at "ze"
  repeat walk_at "zs"
  walk_at "zkSd"
  · exact p_told_kindsO cols checks (ks.map eT) (by rw [List.length_map]; omega) q.it.1 q.it.2
  repeat walk_at "zs"
  with_reducible apply w_callS
  · rfl
  · exact r_layers cols checks (kindsR (ks.map eT)) hc hn (by omega)
  rintro _ rfl
  refine ⟨rfl, ?_⟩
  repeat walk_at "zs"
  exact ⟨rfl, rfl⟩
theorem okN_lays (Ls : List (List (List Int))) : okN 60 (.tup (Ls.map eTs)) = true := by
  rw [okN_tup]
  refine List.all_eq_true.mpr fun d hd => ?_
  obtain ⟨L, _, rfl⟩ := List.mem_map.mp hd
  show okN 59 (.tup (L.map eT)) = true
  rw [okN_tup]
  refine List.all_eq_true.mpr fun d hd => ?_
  obtain ⟨k, _, rfl⟩ := List.mem_map.mp hd
  exact okN_tupI 57 k
theorem w_eqLays {e : DL.Env} {X : XQ} {Q : Val → DL.Env → Prop} {v u : Val} {A B : List (List (List Int))} (h1 : vwD e v = some (.tup (A.map eTs))) (h2 : vwD e u = some (.tup (B.map eTs))) (k : ∀ b, Q (.d (.bl b)) e) : wpE (DL.eqV v u) e Q X :=
  w_boolV h1 h2 (by unfold okEq; rw [okN_lays, okN_lays]; rfl) (k _)
theorem w_isntNo {v u : Val} {a : D} {e : DL.Env} {X : XQ} {Q : Val → DL.Env → Prop} (h1 : vwD e v = some a) (h2 : vwD e u = some .non) (k : Q (.d (.bl (!isN a))) e) : wpE (isntV v u) e Q X := w_boolV h1 h2 rfl k
end My

namespace My
open PySem PySem.Spec PyProof.Rows L2 DL
/-! RE: k08's plain law -/
theorem plain (ns : List Int) (hns : ns.length ≤ 63) : wpE m_law [.sh (.rol (ns.map .int))] (RD (.bl true)) NX := by
  apply w_runF
  · rfl
  · walk_at "ze"
  repeat walk_at "zs"
  with_reducible apply f_loop (enc := D.int) (fun pre e => ∃ g1 g2 g3 g4 g5 g6 g7 g8 g9 g10 g11 g12 g13 g14 g15 g16 g17 g18 g19, e = [.sh (.rol (ns.map .int)), g1, g2, g3, g4, g5, g6, g7, g8, g9, g10, g11, g12, g13, g14, g15, g16, g17, g18, g19, .no]) (rgI 3)
  · rfl
  · walk_at "ze"
  · exact ⟨_, _, _, _, _, _, _, _, _, _, _, _, _, _, _, _, _, _, _, rfl⟩
  · rintro pre k post _ hx ⟨g1, g2, g3, g4, g5, g6, g7, g8, g9, g10, g11, g12, g13, g14, g15, g16, g17, g18, g19, rfl⟩
    have hk : 0 ≤ k ∧ k < ((3 : Nat) : Int) := mem_rgI (by rw [hx]; simp)
    refine ⟨_, rfl, ?_⟩
    repeat walk_at "zs"
    with_reducible apply w_call0
    · rfl
    · rfl
    · exact v_boxW ns k hk.1 (by omega)
    rintro _ _ ⟨b0, rfl⟩
    refine ⟨rfl, ?_⟩
    repeat walk_at "zs"
    with_reducible apply w_call1 2 0
    · rfl
    · rfl
    · rfl
    · exact v_bookC b0 3 (by decide) (by decide)
    rintro _ _ ⟨cols, drawn, b1, rfl, rfl, hg, hcS, h64⟩
    have h1 : cols.length ≤ 4 := hg.c3
    have h2 : ∀ c ∈ cols, 0 ≤ c ∧ c ≤ 4 := fun c hc => by have := hg.cv c hc; omega
    have hk6 := hg.k6
    have hkl := kindsF_len cols h1 h2
    have hoT : ∀ c ∈ drawn.map toldC, okT c := fun c hc => by
      obtain ⟨c, hc', rfl⟩ := List.mem_map.mp hc
      obtain ⟨k1, k2, k3, k4, k5⟩ := hg.kk c hc'
      refine ⟨k2, ?_, fun r hr => (k5 r (mem_toldC.mp hr)).1⟩
      have := ddF_len c.2 []
      have := h64 c hc'
      show (sortT (ddR c.2)).length ≤ _
      rw [(sortT_perm _).length_eq]
      unfold ddR
      simp at *
      omega
    have hoC : ∀ c ∈ drawn, okC c := fun c hc => ⟨(hg.kk c hc).2.1, fun r hr => ((hg.kk c hc).2.2.2.2 r hr).1⟩
    have hrr : ∀ c ∈ drawn, ∀ r ∈ c.2, r.length = c.1.length := fun c hc => (hoC c hc).2
    refine ⟨rfl, ?_⟩
    walk_at "zg"
    repeat walk_at "zs"
    refine ⟨_, rfl, ?_⟩
    repeat walk_at "zs"
    with_reducible apply w_makeB (fun o => o = bookO cols (drawn.map toldC))
    · rfl
    · exact x_book_init cols drawn _ (.inr rfl) hg
    rintro _ rfl
    repeat walk_at "zs"
    with_reducible apply w_call1 2 0
    · rfl
    · rfl
    · rfl
    · exact v_storeL b1 cols drawn hg.c1 h1 hk6 hg.kk
    rintro _ _ ⟨cells, laid, b2, rfl, rfl, S⟩
    have h8 := S.c8
    refine ⟨rfl, ?_⟩
    walk_at "zg"
    repeat walk_at "zs"
    refine ⟨_, rfl, ?_⟩
    repeat walk_at "zs"
    with_reducible apply w_call1 2 0
    · rfl
    · rfl
    · rfl
    · exact v_statesL b2 cols drawn cells laid S hg.cv hoC
    rintro _ _ ⟨f, b3, rfl, rfl, hf, hfl⟩
    refine ⟨rfl, ?_⟩
    walk_at "zg"
    repeat walk_at "zs"
    walk_at "zkSd"
    · exact r_layers_of cols (drawn.map toldC) h1 h2 hoT (by rw [List.length_map]; omega)
    obtain ⟨La, hLa⟩ : ∃ La, La = layN drawn (kindsF cols).length (kindsF cols) := ⟨_, rfl⟩
    rw [show layF (drawn.map toldC) (kindsF cols) = La from by rw [hLa]; exact layN_told _ _]
    repeat walk_at "zs"
    refine ⟨fun hb => ?_, fun hb => ?_⟩
    · repeat walk_at "zs"
      refine s_ct ?_
      exact ⟨_, _, _, _, _, _, _, _, _, _, _, _, _, _, _, _, _, _, _, rfl⟩
    · obtain ⟨s0, fs, hfs⟩ : ∃ s0 fs, f = s0 :: fs := by
        cases f with
        | nil => cases hb
        | cons s0 fs => exact ⟨s0, fs, rfl⟩
      have hs0 := hf s0 (by rw [hfs]; simp)
      repeat walk_at "zs"
      with_reducible apply w_ix (x := eT s0)
      · rfl
      · rfl
      · rfl
      · rw [hfs]
        exact (atI_of (Int.le_refl 0) (by show (0 : Int) < (((s0 :: fs).map eT).length : Nat); rw [List.length_map, List.length_cons]; omega)).trans rfl
      repeat walk_at "zs"
      with_reducible apply f_loop (enc := D.int) (fun pre e => ∃ (b : Int × Int) (st : List Int) (g11 g12 g13 g14 g15 g16 g17 g18 g19 : SV), e = [.sh (.rol (ns.map .int)), .sh (.int k), .ow (boxO b), .sh (eT cols), .sh (.lst (drawn.map eCL)), .ow (bookO cols (drawn.map toldC)), .sh (eL cells), .sh (.lst (laid.map eLl)), .ow (.lst (f.map eT)), .sh (.tup (La.map eTs)), .sh (eT st), g11, g12, g13, g14, g15, g16, g17, g18, g19, .no] ∧ validR cols cells st ∧ goodS drawn laid st = true) (rgI 8)
      walk_at "zci"
      · exact ⟨b3, s0, _, _, _, _, _, _, _, _, _, rfl, hs0⟩
      · rintro pre2 t post2 _ hx2 ⟨b, st, g11, g12, g13, g14, g15, g16, g17, g18, g19, rfl, hst, hgd⟩
        refine ⟨_, rfl, ?_⟩
        repeat walk_at "zs"
        with_reducible apply w_callB
        · rfl
        · exact v_pickO b (f.map eT) (by rw [hfs, List.length_map, List.length_cons]; omega) (by rw [List.length_map]; omega)
        rintro _ _ ⟨rd, b4, rfl, rfl, hrd⟩
        obtain ⟨goal, hgm, rfl⟩ := List.mem_map.mp hrd
        have hgoal := hf goal hgm
        refine ⟨rfl, ?_⟩
        rw [show backL _ _ 0 _ = [.sh (.rol (ns.map .int)), .sh (.int k), .ow (boxO b4), .sh (eT cols), .sh (.lst (drawn.map eCL)), .ow (bookO cols (drawn.map toldC)), .sh (eL cells), .sh (.lst (laid.map eLl)), .ow (.lst (f.map eT)), .sh (.tup (La.map eTs)), .sh (eT st), .sh (.int t), g12, g13, g14, g15, g16, g17, g18, g19, .no] from rfl]
        repeat walk_at "zs"
        with_reducible apply c_pure (enc := D.int) (rgI cells.length) (fun i => !decide (atZ st i = atZ goal i)) (fun i => eT (kdAt cells st goal i))
        walk_at "zc"
        · intro i hi
          have hi := mem_rgI hi
          have l1 := hst.1
          have l2 := hgoal.1.1
          refine ⟨_, rfl, ?_⟩
          repeat walk_at "zs"
          walk_at "zpf"
        obtain ⟨ks, hks0⟩ : ∃ ks, ks = (unlC st goal).map (kdAt cells st goal) := ⟨_, rfl⟩
        rw [show ((rgI cells.length).filter fun i => !decide (atZ st i = atZ goal i)).map (fun i => eT (kdAt cells st goal i)) = ks.map eT from by
          rw [hks0, List.map_map]
          unfold unlC
          rw [hst.1]
          rw [show (rgI cells.length).filter (fun i => !decide (atZ st i = atZ goal i)) = (rgI cells.length).filter (fun i => decide (atZ st i ≠ atZ goal i)) from List.filter_congr fun i _ => by simp]
          rfl]
        have hkk : ∀ k ∈ ks, k ∈ kindsF cols := fun k hk => by
          rw [hks0] at hk
          obtain ⟨i, hi, rfl⟩ := List.mem_map.mp hk
          exact unl_kind S hst hgoal.1 i hi
        have hksl : ks.length ≤ 8 := by
          rw [hks0, List.length_map]
          unfold unlC
          refine Nat.le_trans (List.length_filter_le _ _) ?_
          rw [rgI_length, hst.1]; exact S.c8
        have hks : ∀ i ∈ unlC st goal, kdAt cells st goal i ∈ ks := fun i hi => by
          rw [hks0]
          exact List.mem_map.mpr ⟨i, hi, rfl⟩
        have qK := ksD_map (cols := cols) (l := ks) (by omega) hkk
        have hRl : (kindsR (ks.map eT)).length ≤ 64 := by have := kindsR_len (ks.map eT); rw [List.length_map] at this; omega
        clear hks0
        repeat walk_at "zs"
        walk_at "zkSd"
        · exact q_layersK cols (drawn.map toldC) ks hoT (by rw [List.length_map]; omega) (by omega) hkk
        obtain ⟨Lb, hLb⟩ : ∃ Lb, Lb = layN drawn (kindsR (ks.map eT)).length (kindsR (ks.map eT)) := ⟨_, rfl⟩
        rw [show layF (drawn.map toldC) (kindsR (ks.map eT)) = Lb from by rw [hLb]; exact layN_told _ _]
        repeat walk_at "zs"
        with_reducible apply f_loop (enc := fun Ls : List (List (List Int)) => .tup (Ls.map eTs)) (fun pre e => ∃ (b : Int × Int) (st : List Int) (g15 g16 g17 g18 g19 : SV), e = [.sh (.rol (ns.map .int)), .sh (.int k), .ow (boxO b), .sh (eT cols), .sh (.lst (drawn.map eCL)), .ow (bookO cols (drawn.map toldC)), .sh (eL cells), .sh (.lst (laid.map eLl)), .ow (.lst (f.map eT)), .sh (.tup (La.map eTs)), .sh (eT st), .sh (.int t), .sh (eT goal), .ow (.lst (ks.map eT)), .sh (.tup (Lb.map eTs)), g15, g16, g17, g18, g19, .no] ∧ validR cols cells st ∧ goodS drawn laid st = true ∧ ∀ i ∈ unlC st goal, kdAt cells st goal i ∈ ks) [La, Lb]
        walk_at "zci"
        · exact ⟨b4, st, _, _, _, _, _, rfl, hst, hgd, hks⟩
        · rintro pre3 Ls post3 _ hx3 ⟨b, st, g15, g16, g17, g18, g19, rfl, hst, hgd, hks⟩
          obtain ⟨n, l, rfl, hln, hlu, hlk⟩ : ∃ (n : Nat) (l : List (List Int)), Ls = layN drawn n l ∧ n ≤ 64 ∧ (∀ i ∈ unlC st goal, kdAt cells st goal i ∈ l) ∧ ∀ k ∈ l, k ∈ kindsF cols := by
            have hm : Ls = La ∨ Ls = Lb := by
              have : Ls ∈ [La, Lb] := by rw [hx3]; simp
              simpa using this
            rcases hm with rfl | rfl
            · exact ⟨_, _, hLa, hkl, unl_kind S hst hgoal.1, fun k hk => hk⟩
            · exact ⟨_, _, hLb, hRl, fun i hi => mem_kindsR.mpr ((qK.2.2 _).mpr (hks i hi)), fun k hk => hkk k ((qK.2.2 k).mp (mem_kindsR.mp hk))⟩
          have hl := hst.1
          have hg2 := hgoal.1.1
          refine ⟨_, rfl, ?_⟩
          repeat walk_at "zs"
          with_reducible apply w_callB
          · rfl
          · exact v_sortedL b cells st goal (layN drawn n l) S.c8 hl hg2 (Nat.le_trans (layN_len _ _ _) (by omega)) fun L hL k hk => kinds_two (hlk k (layN_sub n l L hL k hk))
          rintro v _ ⟨b2, rfl, hv⟩
          rcases hv with rfl | ⟨ps, hps, rfl, hlen⟩
          · refine ⟨rfl, ?_⟩
            rw [show backL _ _ 0 _ = [.sh (.rol (ns.map .int)), .sh (.int k), .ow (boxO b2), .sh (eT cols), .sh (.lst (drawn.map eCL)), .ow (bookO cols (drawn.map toldC)), .sh (eL cells), .sh (.lst (laid.map eLl)), .ow (.lst (f.map eT)), .sh (.tup (La.map eTs)), .sh (eT st), .sh (.int t), .sh (eT goal), .ow (.lst (ks.map eT)), .sh (.tup (Lb.map eTs)), .sh (.tup ((layN drawn n l).map eTs)), g16, g17, g18, g19, .no] from rfl]
            repeat walk_at "zs"
            with_reducible apply w_isntNo
            · rfl
            · rfl
            repeat walk_at "zs"
            refine br_of (c := false) rfl (br_f ?_)
            repeat walk_at "zs"
            exact ⟨b2, st, _, _, _, _, _, rfl, hst, hgd, hks⟩
          · refine ⟨rfl, ?_⟩
            rw [show backL _ _ 0 _ = [.sh (.rol (ns.map .int)), .sh (.int k), .ow (boxO b2), .sh (eT cols), .sh (.lst (drawn.map eCL)), .ow (bookO cols (drawn.map toldC)), .sh (eL cells), .sh (.lst (laid.map eLl)), .ow (.lst (f.map eT)), .sh (.tup (La.map eTs)), .sh (eT st), .sh (.int t), .sh (eT goal), .ow (.lst (ks.map eT)), .sh (.tup (Lb.map eTs)), .sh (.tup ((layN drawn n l).map eTs)), g16, g17, g18, g19, .no] from rfl]
            have hall := way_all (by omega) hps hlen
            have hway := way_good S hrr hl hgd hgoal.2 hlu hps
            have hmem : ∀ i ∈ ps.flatten, i ∈ rgI st.length := fun i hi => by
              obtain ⟨L, _, h2⟩ := List.mem_flatMap.mp (hps.perm.mem_iff.mp hi)
              exact (mem_unlC.mp (mem_grp.mp h2).1).1
            have hpl : ps.flatten.length ≤ 8 := by
              rw [hlen]
              unfold unlC
              refine Nat.le_trans (List.length_filter_le _ _) ?_
              rw [rgI_length]; have := S.c8; omega
            generalize ps.flatten = order at *
            repeat walk_at "zs"
            with_reducible apply w_isntNo
            · rfl
            · rfl
            repeat walk_at "zs"
            refine br_of (c := true) rfl (br_t ?_)
            repeat walk_at "zs"
            with_reducible apply w_call1 2 0
            · rfl
            · rfl
            · rfl
            · exact v_takeW b2 _ (by rw [List.length_map]; omega) (by rw [List.length_map]; omega)
            rintro _ _ ⟨stop, b3, rfl, rfl, hs0, hs1⟩
            rw [List.length_map] at hs1
            obtain ⟨sn, rfl⟩ : ∃ sn : Nat, stop = (sn : Int) := ⟨stop.toNat, by omega⟩
            refine ⟨rfl, ?_⟩
            walk_at "zg"
            repeat walk_at "zs"
            rw [List.length_map]
            walk_at "zkSd"
            · exact v_wayL cols drawn cells st goal laid order order.length S hoC hl hg2 hmem (by omega) fun pre post e => hway pre post (by rw [List.take_length] at e; exact e)
            rw [List.take_length, hall]
            repeat walk_at "zs"
            refine br_of (c := false) (by simp) (br_f ?_)
            repeat walk_at "zs"
            walk_at "zkSd"
            · exact v_wayL cols drawn cells st goal laid order sn S hoC hl hg2 hmem (by omega) fun pre post e => hway pre (post ++ order.drop sn) (by rw [← List.append_assoc, ← e, List.take_append_drop])
            have hst2 : validR cols cells (setF st goal (order.take sn)) := setF_valid _ hst hgoal.1
            have hgd2 : goodS drawn laid (setF st goal (order.take sn)) = true := hway _ _ (List.take_append_drop sn order).symm
            have hks2 : ∀ i ∈ unlC (setF st goal (order.take sn)) goal, kdAt cells (setF st goal (order.take sn)) goal i ∈ ks := fun i hi => by
              obtain ⟨h1', h2'⟩ := unl_sub (cells := cells) hi
              rw [h2']
              exact hks i h1'
            generalize setF st goal (order.take sn) = st2 at *
            repeat walk_at "zs"
            with_reducible apply w_isN
            · rfl
            · rfl
            repeat walk_at "zs"
            refine br_of (c := false) rfl (br_f ?_)
            repeat walk_at "zs"
            with_reducible apply w_eqLays
            · rfl
            · rfl
            intro bq
            cases bq with
            | true =>
              repeat walk_at "zs"
              exact ⟨b3, st2, _, _, _, _, _, rfl, hst2, hgd2, hks2⟩
            | false =>
              repeat walk_at "zs"
              exact ⟨b3, st, _, _, _, _, _, rfl, hst, hgd, hks⟩
        · rintro _ ⟨b, st, g15, g16, g17, g18, g19, rfl, hst, hgd, _⟩
          walk_at "zg"
          repeat walk_at "zs"
          exact ⟨b, st, _, _, _, _, _, _, _, _, _, rfl, hst, hgd⟩
      · rintro _ ⟨b, st, g11, g12, g13, g14, g15, g16, g17, g18, g19, rfl, hst, hgd⟩
        walk_at "zg"
        exact ⟨_, _, _, _, _, _, _, _, _, _, _, _, _, _, _, _, _, _, _, rfl⟩
  · rintro _ ⟨g1, g2, g3, g4, g5, g6, g7, g8, g9, g10, g11, g12, g13, g14, g15, g16, g17, g18, g19, rfl⟩
    walk_at "zg"
    repeat walk_at "zs"
    exact (rfl : Val.d _ = Val.d _)
end My

set_option maxHeartbeats 0
namespace My
open PySem PySem.Spec PyProof.Rows L2 DL
variable [TabsT]
theorem law_ok {P : Program} {w : World} {K : PySem.W.Frag} {h : Heap} {mg : Str → Option Value} (hP : P.main.file = FILE) (htop : (P.main.scope.names.lookup ("super" : PySem.Str)).isSome = false) (X : K.In h) (G : h.Ns mainGlobals mg) (cx : SaysX FILE fa fn er K) :
    ∃ fd : FuncData, (∀ (s : Shared) (v : Value), BindsTo s fd ⟨[v], []⟩ [("_law_script", v)]) ∧ ∀ base : Heap, DL.FnOk P w K mg base (L2.CX P w) 8 (He.ga K "law") fd ["_law_script"] (spD K m_law) := by
  have c : He.SaysD fa fn K := cx.d
  have T : Txt K mg := ⟨He.free_ok X G (c.fact 45 (f := .free "len") rfl),
    He.free_ok X G (c.fact 46 (f := .free "isinstance") rfl),
    He.free_ok X G (c.fact 47 (f := .free "int") rfl),
    He.free_ok X G (c.fact 48 (f := .free "bool") rfl),
    He.free_ok X G (c.fact 49 (f := .free "list") rfl),
    He.free_ok X G (c.fact 50 (f := .free "tuple") rfl),
    He.free_ok X G (c.fact 51 (f := .free "str") rfl),
    He.free_ok X G (c.fact 52 (f := .free "all") rfl),
    He.free_ok X G (c.fact 53 (f := .free "any") rfl),
    He.free_ok X G (c.fact 54 (f := .free "range") rfl),
    He.free_ok X G (c.fact 55 (f := .free "enumerate") rfl),
    He.free_ok X G (c.fact 56 (f := .free "zip") rfl),
    He.free_ok X G (c.fact 57 (f := .free "sorted") rfl),
    He.free_ok X G (c.fact 58 (f := .free "set") rfl),
    He.free_ok X G (c.fact 59 (f := .free "repr") rfl),
    He.free_ok X G (c.fact 60 (f := .free "abs") rfl),
    He.free_ok X G (c.fact 61 (f := .free "sum") rfl),
    He.int_ok X G (c.fact 41 (f := .int "MOST_COLUMNS" 4) rfl),
    He.int_ok X G (c.fact 42 (f := .int "MOST_VALUES" 4) rfl),
    He.int_ok X G (c.fact 43 (f := .int "MOST_CHECKS" 6) rfl),
    He.int_ok X G (c.fact 44 (f := .int "MOST_PLACES" 3) rfl),
    (fun c0 hc => by rw [List.mem_singleton.mp hc]; exact ⟨He.cls_ok (c.fact 62 (f := .cls "Book") rfl), He.noat_ok (c.fact 63 (f := .noat "Book" "columns") rfl)⟩),
    (fun c0 hc => by rw [List.mem_singleton.mp hc]; exact ⟨He.cls_ok (c.fact 62 (f := .cls "Book") rfl), He.noat_ok (c.fact 64 (f := .noat "Book" "checks") rfl)⟩)⟩
  obtain ⟨fd_is_integer, F_is_integer⟩ := c.def_ 0 (d := d_is_integer) rfl
  obtain ⟨fd_is_number, F_is_number⟩ := c.def_ 1 (d := d_is_number) rfl
  obtain ⟨fd_is_below, F_is_below⟩ := c.def_ 2 (d := d_is_below) rfl
  obtain ⟨fd_is_within, F_is_within⟩ := c.def_ 3 (d := d_is_within) rfl
  obtain ⟨fd_is_sequence, F_is_sequence⟩ := c.def_ 4 (d := d_is_sequence) rfl
  obtain ⟨fd_check_columns, F_check_columns⟩ := c.def_ 5 (d := d_check_columns) rfl
  obtain ⟨fd_is_values, F_is_values⟩ := c.def_ 6 (d := d_is_values) rfl
  obtain ⟨fd_is_check, F_is_check⟩ := c.def_ 7 (d := d_is_check) rfl
  obtain ⟨fd_told_check, F_told_check⟩ := c.def_ 8 (d := d_told_check) rfl
  obtain ⟨fd_Book___init__, F_Book___init__⟩ := c.def_ 9 (d := d_Book___init__) rfl
  obtain ⟨fd_kinds_of, F_kinds_of⟩ := c.def_ 10 (d := d_kinds_of) rfl
  obtain ⟨fd_is_kind, F_is_kind⟩ := c.def_ 11 (d := d_is_kind) rfl
  obtain ⟨fd_check_kinds, F_check_kinds⟩ := c.def_ 12 (d := d_check_kinds) rfl
  obtain ⟨fd_told_kinds, F_told_kinds⟩ := c.def_ 13 (d := d_told_kinds) rfl
  obtain ⟨fd_lots_set, F_lots_set⟩ := c.def_ 14 (d := d_lots_set) rfl
  obtain ⟨fd_row_set, F_row_set⟩ := c.def_ 15 (d := d_row_set) rfl
  obtain ⟨fd_places_of, F_places_of⟩ := c.def_ 16 (d := d_places_of) rfl
  obtain ⟨fd_barred_lots, F_barred_lots⟩ := c.def_ 17 (d := d_barred_lots) rfl
  obtain ⟨fd_unlike_pairs, F_unlike_pairs⟩ := c.def_ 18 (d := d_unlike_pairs) rfl
  obtain ⟨fd_all_unlike, F_all_unlike⟩ := c.def_ 19 (d := d_all_unlike) rfl
  obtain ⟨fd_first_bar, F_first_bar⟩ := c.def_ 20 (d := d_first_bar) rfl
  obtain ⟨fd_layers_and_rest, F_layers_and_rest⟩ := c.def_ 21 (d := d_layers_and_rest) rfl
  obtain ⟨fd_layers_of, F_layers_of⟩ := c.def_ 22 (d := d_layers_of) rfl
  obtain ⟨fd__law_box, F__law_box⟩ := c.def_ 23 (d := d__law_box) rfl
  obtain ⟨fd__law_take, F__law_take⟩ := c.def_ 24 (d := d__law_take) rfl
  obtain ⟨fd__law_pick, F__law_pick⟩ := c.def_ 25 (d := d__law_pick) rfl
  obtain ⟨fd__law_mixed, F__law_mixed⟩ := c.def_ 26 (d := d__law_mixed) rfl
  obtain ⟨fd__law_kinds, F__law_kinds⟩ := c.def_ 27 (d := d__law_kinds) rfl
  obtain ⟨fd__law_rows, F__law_rows⟩ := c.def_ 28 (d := d__law_rows) rfl
  obtain ⟨fd__law_lots, F__law_lots⟩ := c.def_ 29 (d := d__law_lots) rfl
  obtain ⟨fd__law_set, F__law_set⟩ := c.def_ 30 (d := d__law_set) rfl
  obtain ⟨fd__law_between, F__law_between⟩ := c.def_ 31 (d := d__law_between) rfl
  obtain ⟨fd__law_hull, F__law_hull⟩ := c.def_ 32 (d := d__law_hull) rfl
  obtain ⟨fd__law_book, F__law_book⟩ := c.def_ 33 (d := d__law_book) rfl
  obtain ⟨fd__law_good, F__law_good⟩ := c.def_ 34 (d := d__law_good) rfl
  obtain ⟨fd__law_store, F__law_store⟩ := c.def_ 35 (d := d__law_store) rfl
  obtain ⟨fd__law_states, F__law_states⟩ := c.def_ 36 (d := d__law_states) rfl
  obtain ⟨fd__law_sorted, F__law_sorted⟩ := c.def_ 37 (d := d__law_sorted) rfl
  obtain ⟨fd__law_way_right, F__law_way_right⟩ := c.def_ 38 (d := d__law_way_right) rfl
  obtain ⟨fd_law, F_law⟩ := c.def_ 39 (d := d_law) rfl
  refine ⟨fd_law, fun s v => FunD.bindsA (ps := ["_law_script"]) F_law (fun _ _ _ _ _ _ us hl => match us, hl with | [_], _ => rfl) s [v] rfl, fun base => ?_⟩
  have C_is_integer := ok_is_integer (P := P) (w := w) (base := base) F_is_integer (He.glo_ok X G (c.fact 0 (f := .glo "is_integer") rfl)) T 
  have C_is_number := ok_is_number (P := P) (w := w) (base := base) F_is_number (He.glo_ok X G (c.fact 1 (f := .glo "is_number") rfl)) T C_is_integer
  have C_is_below := ok_is_below (P := P) (w := w) (base := base) F_is_below (He.glo_ok X G (c.fact 2 (f := .glo "is_below") rfl)) T C_is_number
  have C_is_within := ok_is_within (P := P) (w := w) (base := base) F_is_within (He.glo_ok X G (c.fact 3 (f := .glo "is_within") rfl)) T C_is_integer
  have C_is_sequence := ok_is_sequence (P := P) (w := w) (base := base) F_is_sequence (He.glo_ok X G (c.fact 4 (f := .glo "is_sequence") rfl)) T 
  have C_check_columns := ok_check_columns (P := P) (w := w) (base := base) F_check_columns (He.glo_ok X G (c.fact 5 (f := .glo "check_columns") rfl)) T C_is_sequence C_is_within
  have C_is_values := ok_is_values (P := P) (w := w) (base := base) F_is_values (He.glo_ok X G (c.fact 6 (f := .glo "is_values") rfl)) T C_is_sequence C_is_below
  have C_is_check := ok_is_check (P := P) (w := w) (base := base) F_is_check (He.glo_ok X G (c.fact 7 (f := .glo "is_check") rfl)) T C_is_sequence C_is_below C_is_values
  have C_told_check := ok_told_check (P := P) (w := w) (base := base) F_told_check (He.glo_ok X G (c.fact 8 (f := .glo "told_check") rfl)) T 
  have C_Book___init__ := ok_Book___init__ (P := P) (w := w) (base := base) F_Book___init__ (He.glo_ok X G (c.fact 39 (f := .glo "Book") rfl)) (He.mkr_ok (c.fact 40 (f := .mkr "Book") rfl)) T C_check_columns C_is_sequence C_is_check C_told_check
  have C_kinds_of := ok_kinds_of (P := P) (w := w) (base := base) F_kinds_of (He.glo_ok X G (c.fact 9 (f := .glo "kinds_of") rfl)) T 
  have C_is_kind := ok_is_kind (P := P) (w := w) (base := base) F_is_kind (He.glo_ok X G (c.fact 10 (f := .glo "is_kind") rfl)) T C_is_sequence C_is_below
  have C_check_kinds := ok_check_kinds (P := P) (w := w) (base := base) F_check_kinds (He.glo_ok X G (c.fact 11 (f := .glo "check_kinds") rfl)) T C_is_sequence C_is_kind
  have C_told_kinds := ok_told_kinds (P := P) (w := w) (base := base) F_told_kinds (He.glo_ok X G (c.fact 12 (f := .glo "told_kinds") rfl)) T C_kinds_of C_check_kinds
  have C_lots_set := ok_lots_set (P := P) (w := w) (base := base) F_lots_set (He.glo_ok X G (c.fact 13 (f := .glo "lots_set") rfl)) T 
  have C_row_set := ok_row_set (P := P) (w := w) (base := base) F_row_set (He.glo_ok X G (c.fact 14 (f := .glo "row_set") rfl)) T 
  have C_places_of := ok_places_of (P := P) (w := w) (base := base) F_places_of (He.glo_ok X G (c.fact 15 (f := .glo "places_of") rfl)) T 
  have C_barred_lots := ok_barred_lots (P := P) (w := w) (base := base) F_barred_lots (He.glo_ok X G (c.fact 16 (f := .glo "barred_lots") rfl)) T C_places_of C_lots_set C_row_set
  have C_unlike_pairs := ok_unlike_pairs (P := P) (w := w) (base := base) F_unlike_pairs (He.glo_ok X G (c.fact 17 (f := .glo "unlike_pairs") rfl)) T 
  have C_all_unlike := ok_all_unlike (P := P) (w := w) (base := base) F_all_unlike (He.glo_ok X G (c.fact 18 (f := .glo "all_unlike") rfl)) T C_unlike_pairs
  have C_first_bar := ok_first_bar (P := P) (w := w) (base := base) F_first_bar (He.glo_ok X G (c.fact 19 (f := .glo "first_bar") rfl)) T C_barred_lots
  have C_layers_and_rest := ok_layers_and_rest (P := P) (w := w) (base := base) F_layers_and_rest (He.glo_ok X G (c.fact 20 (f := .glo "layers_and_rest") rfl)) T C_all_unlike C_first_bar
  have C_layers_of := ok_layers_of (P := P) (w := w) (base := base) F_layers_of (He.glo_ok X G (c.fact 21 (f := .glo "layers_of") rfl)) T C_layers_and_rest C_told_kinds
  have C1_layers_of := ok1_layers_of (P := P) (w := w) (base := base) F_layers_of (He.glo_ok X G (c.fact 21 (f := .glo "layers_of") rfl)) T C_layers_and_rest C_told_kinds
  have C__law_box := ok__law_box (P := P) (w := w) (base := base) F__law_box (He.glo_ok X G (c.fact 22 (f := .glo "_law_box") rfl)) T 
  have C__law_take := ok__law_take (P := P) (w := w) (base := base) F__law_take (He.glo_ok X G (c.fact 23 (f := .glo "_law_take") rfl)) T 
  have C__law_pick := ok__law_pick (P := P) (w := w) (base := base) F__law_pick (He.glo_ok X G (c.fact 24 (f := .glo "_law_pick") rfl)) T C__law_take
  have C__law_mixed := ok__law_mixed (P := P) (w := w) (base := base) F__law_mixed (He.glo_ok X G (c.fact 25 (f := .glo "_law_mixed") rfl)) T C__law_take
  have C__law_kinds := ok__law_kinds (P := P) (w := w) (base := base) F__law_kinds (He.glo_ok X G (c.fact 26 (f := .glo "_law_kinds") rfl)) T 
  have C__law_rows := ok__law_rows (P := P) (w := w) (base := base) F__law_rows (He.glo_ok X G (c.fact 27 (f := .glo "_law_rows") rfl)) T 
  have C__law_lots := ok__law_lots (P := P) (w := w) (base := base) F__law_lots (He.glo_ok X G (c.fact 28 (f := .glo "_law_lots") rfl)) T 
  have C__law_set := ok__law_set (P := P) (w := w) (base := base) F__law_set (He.glo_ok X G (c.fact 29 (f := .glo "_law_set") rfl)) T 
  have C__law_between := ok__law_between (P := P) (w := w) (base := base) F__law_between (He.glo_ok X G (c.fact 30 (f := .glo "_law_between") rfl)) T C__law_lots C__law_set
  have C__law_hull := ok__law_hull (P := P) (w := w) (base := base) F__law_hull (He.glo_ok X G (c.fact 31 (f := .glo "_law_hull") rfl)) T C__law_between
  have C__law_book := ok__law_book (P := P) (w := w) (base := base) F__law_book (He.glo_ok X G (c.fact 32 (f := .glo "_law_book") rfl)) T C__law_pick C__law_mixed C__law_kinds C__law_take C__law_rows C__law_hull
  have C__law_good := ok__law_good (P := P) (w := w) (base := base) F__law_good (He.glo_ok X G (c.fact 33 (f := .glo "_law_good") rfl)) T 
  have C__law_store := ok__law_store (P := P) (w := w) (base := base) F__law_store (He.glo_ok X G (c.fact 34 (f := .glo "_law_store") rfl)) T C__law_take C__law_pick
  have C__law_states := ok__law_states (P := P) (w := w) (base := base) F__law_states (He.glo_ok X G (c.fact 35 (f := .glo "_law_states") rfl)) T C__law_take C__law_pick C__law_good
  have C__law_sorted := ok__law_sorted (P := P) (w := w) (base := base) F__law_sorted (He.glo_ok X G (c.fact 36 (f := .glo "_law_sorted") rfl)) T C__law_mixed
  have C__law_way_right := ok__law_way_right (P := P) (w := w) (base := base) F__law_way_right (He.glo_ok X G (c.fact 37 (f := .glo "_law_way_right") rfl)) T C__law_good
  exact ok_law (P := P) (w := w) (base := base) F_law T C__law_box C__law_book C_Book___init__ C__law_store C__law_states C__law_pick C_layers_of C__law_sorted C__law_take C__law_way_right C1_layers_of
end My

set_option maxHeartbeats 0
namespace My
open PySem PySem.Spec PyProof.Rows L2 DL
theorem abs_start {K : PySem.W.Frag} {H : Hp} {a : Addr} {ns : List Int} (hO : Only H) (h : SqL K H a (ns.map V.int)) : Abs K (([V.ref a] : List V).map some) H H [.sh (.rol (ns.map D.int))] where
  len := rfl
  sub := Same.refl _
  at_ := fun i s e => by
    match i, e with
    | 0, e =>
      cases e
      exact ⟨.ref a, rfl, rep_rol.mpr ⟨a, _, rfl, h, repL_intsV ns⟩⟩
    | i + 1, e => cases e
  ap := fun i j s t b h1 h2 h3 _ _ _ => by
    match i, h1 with
    | 0, h1 => cases h1; cases h3
    | i + 1, h1 => cases h1
  tab := fun q hq => nomatch hq
  nt := fun b u hb => by
    rcases hO b with z | ⟨ob, xs, z⟩
    · rw [hb] at z; cases z
    · rw [hb] at z; cases z; rfl
  ot := fun b ps hb => by
    rcases hO b with z | ⟨ob, xs, z⟩
    · rw [hb] at z; cases z
    · rw [hb] at z; cases z
theorem join (plain : ∀ ns : List Int, ns.length ≤ 63 → ∃ e, m_law [.sh (.rol (ns.map D.int))] = .ok (.d (.bl true)) e) : (PySem.Challenge.rw_makefirst_k08_whole_batches_sorted_by_la).Holds := by
  refine joinA ?_
  refine DL.walk_G (l := PySem.Challenge.rw_makefirst_k08_whole_batches_sorted_by_la) (n := 63) (k := 8) (x := "_law_script") rfl (by decide) law_args ⟨⟨rfl, by decide, by decide⟩, rfl⟩ ?F ?out
  case out =>
    intro w H s e s' h
    obtain ⟨_, _, _, _, _, _, _, _, _, _, _, _, h⟩ := h
    exact h
  case F =>
    intro w mg fa h Y G hmg0
    obtain ⟨K, KX, cx⟩ := Y
    have c := cx.d
    obtain ⟨fd, hb, hF⟩ := law_ok (P := (PySem.Challenge.rw_makefirst_k08_whole_batches_sorted_by_la).prog) (w := w) law_file law_super KX G cx
    have hmg : mg ("law" : PySem.Str) = some (.ref fa) := by
      rw [← law_name]
      exact hmg0
    have ea := hmg.symm.trans (He.glo_ok KX G (c.fact 38 (f := .glo "law") rfl))
    cases ea
    refine ⟨K, fd, _, KX, hb, fun H a ns hl hO hS => ?_, fun base _ _ => hF base⟩
    obtain ⟨e', he⟩ := plain ns hl
    refine ⟨H, [.sh (.rol (ns.map D.int))], abs_start hO hS, ?_⟩
    rw [he]
    exact fun H' S' w' _ _ (hv : Rep K S' (.bl true) w') => (rep_bl (K := K) (H := S')).mp hv
end My

theorem PySem.Challenge.cw_makefirst_k08_whole_batches_sorted_by_la_holds : PySem.Challenge.rw_makefirst_k08_whole_batches_sorted_by_la.Holds := by
  refine My.join fun ns hns => ?_
  obtain ⟨v, e, h, hv⟩ := DL.w_eq (My.plain ns hns)
  exact ⟨e, by rw [h, show v = DL.Val.d (.bl true) from hv]⟩
