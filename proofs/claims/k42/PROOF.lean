import PyProof.Rows.All
import Wide.All
import OpenK.AllK
import Wide.FinOn
import HandS.ForMost
import HandS.Exc
import HandS.Defaults
import KE.KDictKeyed
import KE.KDictLaw
import HandS.Codes
import HandS.Conv
import HandS.FStr
import HandS.StrMore
import HandS.Flow
import HandS.Deep
import HandS.TupAny
import HandS.SetFor
import HandS.TupLen
import HandS.Small
import HandS.IsInst
import HandS.SetKeys
import HandS.Iter
import HandS.Words
import HandS.ExcOwn
import HandS.ExcInit
import HandS.ExcField
import HandS.ExcValue
import HandS.WordsExc
import HandS.HeadHook2
import HandS.MapJoin
import KE.KExcIs
import HandS.Head0
import HandS.Head1
import HandS.Head2
import HandS.HeadEnd
import PySem.Challenge.RW_kinrows_k42_forms_of_stretches
set_option Elab.async false
set_option linter.all false
set_option maxRecDepth 100000
/-! KR: values as trees, mutable cells apart. -/
namespace KR
open PySem PySem.Spec PyProof.Rows L2

/-- the written part, the program, the world -/
structure Kx where
  K : PySem.W.Frag
  P : Program
  w : World
/-- a value without the heap: a tree of what is never changed any more; ref a: the cell at a -/
inductive D where
  | non | bl (b : Bool) | int (i : Int) | str (x : Str) | ref (a : Addr)
  | lst (xs : List D) | tup (xs : List D) | dK (kvs : List (Key × D)) | dT (kvs : List (List Key × D)) | dN (kvs : List (NestedKey × D)) | ins (C : Addr) (fs : List (Str × D)) | raw (v : V)
  /-- a tuple of which it is known that it has no dict -/
  | tupz (xs : List D)
  /-- the script; a tuple of texts that the module holds -/
  | scr (ns : List Int) | kt (xs : List Str)
  /-- an exception that was caught: its class, its fields -/
  | exc (C : Addr) (fs : List (Str × D))
/-- what may be changed -/
inductive Cell where
  | lst (xs : List D) | dK (kvs : List (Key × D)) | dT (kvs : List (List Key × D)) | dN (kvs : List (NestedKey × D)) | ins (C : Addr) (fs : List (Str × D))
  /-- a list that a comprehension is making -/
  | hid (vs : List V)
abbrev Store := Addr → Option Cell
def sup (S : Store) (a : Addr) (c : Cell) : Store := fun b => if b = a then some c else S b
def sdel (S : Store) (a : Addr) : Store := fun b => if b = a then none else S b
theorem sup_same {S : Store} {a : Addr} {c : Cell} : sup S a c a = some c := by unfold sup; rw [if_pos rfl]
theorem sup_ne {S : Store} {a b : Addr} {c : Cell} (h : b ≠ a) : sup S a c b = S b := by unfold sup; rw [if_neg h]
theorem sdel_same {S : Store} {a : Addr} : sdel S a a = none := by unfold sdel; rw [if_pos rfl]
theorem sdel_ne {S : Store} {a b : Addr} (h : b ≠ a) : sdel S a b = S b := by unfold sdel; rw [if_neg h]
theorem sup_sup {S : Store} {a : Addr} {c d : Cell} : sup (sup S a c) a d = sup S a d := by funext b; unfold sup; split <;> rfl
theorem sdel_sup {S : Store} {a : Addr} {c : Cell} (h : S a = none) : sdel (sup S a c) a = S := by
  funext b; unfold sdel sup
  by_cases e : b = a
  · subst e; simp [h]
  · simp [e]
theorem sup_self {S : Store} {a : Addr} {c : Cell} (h : S a = some c) : sup S a c = S := by
  funext b; unfold sup
  by_cases e : b = a
  · subst e; simp [h]
  · simp [e]

/-- a key as a value -/
def kD : Key → D
  | .inl i => .int i
  | .inr x => .str x

/-- the module's own list, tuple -/
def KLst (K : PySem.W.Frag) (a : Addr) (xs : List V) : Prop := ∃ (o : Obj) (its : Array Value) (n : Nat), K.lookup a = some o ∧ o.cls = .type "list" ∧ o.dict = none ∧ o.data = .seq its n ∧ its.size ≤ sizeLine ∧ Vals xs its.toList
def KTup (K : PySem.W.Frag) (a : Addr) (xs : List V) : Prop := ∃ (o : Obj) (its : Array Value) (n : Nat), K.lookup a = some o ∧ o.cls = .type "tuple" ∧ o.data = .seq its n ∧ its.size ≤ sizeLine ∧ Vals xs its.toList
mutual
/-- a key of any depth, as a value -/
def NkR (S : Store) (H : Hp) : NestedKey → V → Prop
  | .none, v => v = .non
  | .num i, v => v = .int i
  | .text x, v => v = .str x
  | .tup ks, v => ∃ a vs, v = .ref a ∧ S a = none ∧ Rd H a (.tup vs) ∧ NkRs S H ks vs
def NkRs (S : Store) (H : Hp) : List NestedKey → List V → Prop
  | [], vs => vs = []
  | k :: ks, vs => ∃ v r, vs = v :: r ∧ NkR S H k v ∧ NkRs S H ks r
end
/-- the very dict that stands at a -/
def ExD (o : Obj) (a : Addr) : HO := .ext fun h => h.get? a = some o
section
variable (K : Kx)
mutual
def Rp (S : Store) (H : Hp) : D → V → Prop
  | .non, v => v = .non
  | .bl b, v => v = .bl b
  | .int i, v => v = .int i
  | .str x, v => v = .str x
  | .ref a, v => v = .ref a
  | .lst xs, v => ∃ a vs, v = .ref a ∧ S a = none ∧ H a = some (.lst vs) ∧ Rps S H xs vs
  | .tup xs, v => ∃ a vs, v = .ref a ∧ S a = none ∧ H a = some (.tup vs) ∧ Rps S H xs vs
  | .dK kvs, v => ∃ a o r, v = .ref a ∧ S a = none ∧ H a = some (.frz o (.dK r)) ∧ RpK S H kvs r
  | .dT kvs, v => ∃ a o r, v = .ref a ∧ S a = none ∧ H a = some (.frz o (.dT r)) ∧ RpT S H kvs r
  | .dN kvs, v => ∃ a o es ep xs, v = .ref a ∧ S a = none ∧ H a = some (ExD o a) ∧ o.ExactDict ∧ o.data = .dict es ep ∧ es.toList = xs.map (entryOfKey (nestedKind K.P K.w)) ∧ (xs.map (·.1)).Nodup ∧ (a == sysModules) = false ∧ xs.length ≤ sizeLine ∧ RpN S H kvs xs
  | .tupz xs, v => ∃ a o vs, v = .ref a ∧ S a = none ∧ H a = some (.frz o (.tup vs)) ∧ o.dict = none ∧ Rps S H xs vs
  | .ins C fs, v => ∃ a dx r, v = .ref a ∧ S a = none ∧ H a = some (.ins C dx r) ∧ RpF S H fs r
  | .raw x, v => v = x
  | .scr ns, v => ∃ a, v = .ref a ∧ ((S a = none ∧ Rd H a (.lst (ns.map V.int))) ∨ KLst K.K a (ns.map V.int))
  | .kt xs, v => ∃ a, v = .ref a ∧ KTup K.K a (xs.map V.str)
  | .exc C fs, v => ∃ a o vs, v = .ref a ∧ S a = none ∧ H a = some (ExD o a) ∧ o.cls = .ref C ∧ o.data = .fields vs ∧ ((fs = [] ∧ o.dict = none) ∨ ∃ dx r, o.dict = some dx ∧ S dx = none ∧ H dx = some (.xd r) ∧ RpF S H fs r)
def Rps (S : Store) (H : Hp) : List D → List V → Prop
  | [], vs => vs = []
  | d :: ds, vs => ∃ v r, vs = v :: r ∧ Rp S H d v ∧ Rps S H ds r
def RpK (S : Store) (H : Hp) : List (Key × D) → List (Key × V) → Prop
  | [], r => r = []
  | (k, d) :: kvs, r => ∃ v r', r = (k, v) :: r' ∧ Rp S H d v ∧ RpK S H kvs r'
def RpT (S : Store) (H : Hp) : List (List Key × D) → List (List Key × V) → Prop
  | [], r => r = []
  | (k, d) :: kvs, r => ∃ v r', r = (k, v) :: r' ∧ Rp S H d v ∧ RpT S H kvs r'
def RpN (S : Store) (H : Hp) : List (NestedKey × D) → List (NestedKey × Addr × Value) → Prop
  | [], r => r = []
  | (k, d) :: kvs, r => ∃ b u v r', r = (k, b, u) :: r' ∧ (NkR S H k (.ref b) ∧ k.depth ≤ 8) ∧ RelV v u ∧ Rp S H d v ∧ RpN S H kvs r'
def RpF (S : Store) (H : Hp) : List (Str × D) → List (Str × V) → Prop
  | [], r => r = []
  | (f, d) :: fs, r => ∃ v r', r = (f, v) :: r' ∧ Rp S H d v ∧ RpF S H fs r'
end
end

/-- what stands and is no cell stays so -/
def Step (S : Store) (H : Hp) (S' : Store) (H' : Hp) : Prop := ∀ a o, S a = none → H a = some o → S' a = none ∧ H' a = some o
theorem Step.refl {S : Store} {H : Hp} : Step S H S H := fun _ _ h1 h2 => ⟨h1, h2⟩
theorem Step.trans {S S1 S2 : Store} {H H1 H2 : Hp} (a : Step S H S1 H1) (b : Step S1 H1 S2 H2) : Step S H S2 H2 := fun x o h1 h2 =>
  let ⟨h3, h4⟩ := a x o h1 h2
  b x o h3 h4
theorem Step.rd {S S' : Store} {H H' : Hp} (st : Step S H S' H') {a : Addr} {u : HO} (hs : S a = none) (h : Rd H a u) : Rd H' a u := by
  rcases h with h | ⟨o, h⟩
  · exact .inl (st a _ hs h).2
  · exact .inr ⟨o, (st a _ hs h).2⟩
theorem Rd.ex {H : Hp} {a : Addr} {u : HO} (h : Rd H a u) : ∃ o, H a = some o := by
  rcases h with h | ⟨o, h⟩
  · exact ⟨_, h⟩
  · exact ⟨_, h⟩

section
variable {K : Kx}
mutual
theorem NkR.step {S S' : Store} {H H' : Hp} (st : Step S H S' H') : ∀ {k : NestedKey} {v : V}, NkR S H k v → NkR S' H' k v
  | .none, _, h => h
  | .num _, _, h => h
  | .text _, _, h => h
  | .tup ks, _, h => by
    unfold NkR at h ⊢
    obtain ⟨a, vs, e, hs, hh, r⟩ := h
    obtain ⟨o, ho⟩ := Rd.ex hh
    exact ⟨a, vs, e, (st a o hs ho).1, st.rd hs hh, NkRs.step st r⟩
theorem NkRs.step {S S' : Store} {H H' : Hp} (st : Step S H S' H') : ∀ {ks : List NestedKey} {vs : List V}, NkRs S H ks vs → NkRs S' H' ks vs
  | [], _, h => by unfold NkRs at h ⊢; exact h
  | k :: ks, _, h => by
    unfold NkRs at h ⊢
    obtain ⟨v, r, e, h1, h2⟩ := h
    exact ⟨v, r, e, NkR.step st h1, NkRs.step st h2⟩
end
mutual
theorem Rp.step {S S' : Store} {H H' : Hp} (st : Step S H S' H') : ∀ {d : D} {v : V}, Rp K S H d v → Rp K S' H' d v
  | .non, _, h => h
  | .bl _, _, h => h
  | .int _, _, h => h
  | .str _, _, h => h
  | .ref _, _, h => h
  | .raw _, _, h => h
  | .scr ns, _, h => by
    unfold Rp at h ⊢
    obtain ⟨a, e, h⟩ := h
    rcases h with ⟨hs, hh⟩ | h
    · obtain ⟨o, ho⟩ := Rd.ex hh
      exact ⟨a, e, .inl ⟨(st a o hs ho).1, st.rd hs hh⟩⟩
    · exact ⟨a, e, .inr h⟩
  | .kt xs, _, h => by
    unfold Rp at h ⊢
    exact h
  | .exc C fs, _, h => by
    unfold Rp at h ⊢
    obtain ⟨a, o, vs, e, hs, hh, e1, e2, h⟩ := h
    refine ⟨a, o, vs, e, (st a _ hs hh).1, (st a _ hs hh).2, e1, e2, ?_⟩
    rcases h with h | ⟨dx, r, e3, hs2, hh2, q⟩
    · exact .inl h
    · exact .inr ⟨dx, r, e3, (st dx _ hs2 hh2).1, (st dx _ hs2 hh2).2, RpF.step st q⟩
  | .lst xs, _, h => by
    unfold Rp at h ⊢
    obtain ⟨a, vs, e, hs, hh, r⟩ := h
    exact ⟨a, vs, e, (st a _ hs hh).1, (st a _ hs hh).2, Rps.step st r⟩
  | .tup xs, _, h => by
    unfold Rp at h ⊢
    obtain ⟨a, vs, e, hs, hh, r⟩ := h
    exact ⟨a, vs, e, (st a _ hs hh).1, (st a _ hs hh).2, Rps.step st r⟩
  | .dK kvs, _, h => by
    unfold Rp at h ⊢
    obtain ⟨a, o, r, e, hs, hh, q⟩ := h
    exact ⟨a, o, r, e, (st a _ hs hh).1, (st a _ hs hh).2, RpK.step st q⟩
  | .dT kvs, _, h => by
    unfold Rp at h ⊢
    obtain ⟨a, o, r, e, hs, hh, q⟩ := h
    exact ⟨a, o, r, e, (st a _ hs hh).1, (st a _ hs hh).2, RpT.step st q⟩
  | .dN kvs, _, h => by
    unfold Rp at h ⊢
    obtain ⟨a, o, es, ep, xs, e, hs, hh, e1, e2, e3, e4, e5, e6, q⟩ := h
    exact ⟨a, o, es, ep, xs, e, (st a _ hs hh).1, (st a _ hs hh).2, e1, e2, e3, e4, e5, e6, RpN.step st q⟩
  | .tupz xs, _, h => by
    unfold Rp at h ⊢
    obtain ⟨a, o, vs, e, hs, hh, e1, r⟩ := h
    exact ⟨a, o, vs, e, (st a _ hs hh).1, (st a _ hs hh).2, e1, Rps.step st r⟩
  | .ins C fs, _, h => by
    unfold Rp at h ⊢
    obtain ⟨a, dx, r, e, hs, hh, q⟩ := h
    exact ⟨a, dx, r, e, (st a _ hs hh).1, (st a _ hs hh).2, RpF.step st q⟩
theorem Rps.step {S S' : Store} {H H' : Hp} (st : Step S H S' H') : ∀ {ds : List D} {vs : List V}, Rps K S H ds vs → Rps K S' H' ds vs
  | [], _, h => by unfold Rps at h ⊢; exact h
  | d :: ds, _, h => by
    unfold Rps at h ⊢
    obtain ⟨v, r, e, h1, h2⟩ := h
    exact ⟨v, r, e, Rp.step st h1, Rps.step st h2⟩
theorem RpK.step {S S' : Store} {H H' : Hp} (st : Step S H S' H') : ∀ {ds : List (Key × D)} {vs : List (Key × V)}, RpK K S H ds vs → RpK K S' H' ds vs
  | [], _, h => by unfold RpK at h ⊢; exact h
  | (k, d) :: ds, _, h => by
    unfold RpK at h ⊢
    obtain ⟨v, r, e, h1, h2⟩ := h
    exact ⟨v, r, e, Rp.step st h1, RpK.step st h2⟩
theorem RpT.step {S S' : Store} {H H' : Hp} (st : Step S H S' H') : ∀ {ds : List (List Key × D)} {vs : List (List Key × V)}, RpT K S H ds vs → RpT K S' H' ds vs
  | [], _, h => by unfold RpT at h ⊢; exact h
  | (k, d) :: ds, _, h => by
    unfold RpT at h ⊢
    obtain ⟨v, r, e, h1, h2⟩ := h
    exact ⟨v, r, e, Rp.step st h1, RpT.step st h2⟩
theorem RpN.step {S S' : Store} {H H' : Hp} (st : Step S H S' H') : ∀ {ds : List (NestedKey × D)} {vs : List (NestedKey × Addr × Value)}, RpN K S H ds vs → RpN K S' H' ds vs
  | [], _, h => by unfold RpN at h ⊢; exact h
  | (k, d) :: ds, _, h => by
    unfold RpN at h ⊢
    obtain ⟨b, u, v, r, e, ⟨h1, h1'⟩, h2, h3, h4⟩ := h
    exact ⟨b, u, v, r, e, ⟨NkR.step st h1, h1'⟩, h2, Rp.step st h3, RpN.step st h4⟩
theorem RpF.step {S S' : Store} {H H' : Hp} (st : Step S H S' H') : ∀ {ds : List (Str × D)} {vs : List (Str × V)}, RpF K S H ds vs → RpF K S' H' ds vs
  | [], _, h => by unfold RpF at h ⊢; exact h
  | (k, d) :: ds, _, h => by
    unfold RpF at h ⊢
    obtain ⟨v, r, e, h1, h2⟩ := h
    exact ⟨v, r, e, Rp.step st h1, RpF.step st h2⟩
end
end
end KR
set_option Elab.async false
set_option linter.all false
set_option maxRecDepth 100000
namespace KR
open PySem PySem.Spec PyProof.Rows L2

def COk (K : Kx) (S : Store) (H : Hp) (a : Addr) : Cell → Prop
  | .hid vs => H a = some (.lst vs)
  | .lst xs => ∃ vs, H a = some (.lst vs) ∧ Rps K S H xs vs
  | .dK kvs => ∃ r, H a = some (.dK r) ∧ RpK K S H kvs r
  | .dT kvs => ∃ r, H a = some (.dT r) ∧ RpT K S H kvs r
  | .dN kvs => ∃ o es ep xs, H a = some (ExD o a) ∧ o.ExactDict ∧ o.data = .dict es ep ∧ es.toList = xs.map (entryOfKey (nestedKind K.P K.w)) ∧ (xs.map (·.1)).Nodup ∧ (a == sysModules) = false ∧ xs.length ≤ sizeLine ∧ RpN K S H kvs xs
  | .ins C fs => ∃ dx r, H a = some (.ins C dx r) ∧ RpF K S H fs r
/-- every list and tuple is within the line -/
def Sz (H : Hp) : Prop := ∀ a xs, (Rd H a (.lst xs) ∨ Rd H a (.tup xs)) → xs.length ≤ sizeLine
def SzO : HO → Prop
  | .frz _ (.tup xs) => xs.length ≤ sizeLine
  | .lst xs => xs.length ≤ sizeLine
  | .tup xs => xs.length ≤ sizeLine
  | .frz _ (.lst xs) => xs.length ≤ sizeLine
  | _ => True
structure Ok (K : Kx) (S : Store) (H : Hp) : Prop where
  c : ∀ a c, S a = some c → COk K S H a c
  z : Sz H
section
variable {K : Kx}
theorem Sz.put {H : Hp} (z : Sz H) {p : Addr} {o : HO} (h : SzO o) : Sz (upd H p o) := fun a xs q => by
  by_cases e : a = p
  · subst e
    rcases q with (q | ⟨u, q⟩) | (q | ⟨u, q⟩) <;> (rw [upd_same] at q; cases q; exact h)
  · refine z a xs ?_
    rcases q with (q | ⟨u, q⟩) | (q | ⟨u, q⟩) <;> rw [upd_ne e] at q
    · exact .inl (.inl q)
    · exact .inl (.inr ⟨u, q⟩)
    · exact .inr (.inl q)
    · exact .inr (.inr ⟨u, q⟩)
theorem COk.there {S : Store} {H : Hp} {a : Addr} {c : Cell} (h : COk K S H a c) : ∃ o, H a = some o := by
  cases c with
  | hid vs => exact ⟨_, h⟩
  | lst xs => obtain ⟨vs, e, _⟩ := h; exact ⟨_, e⟩
  | dK kvs => obtain ⟨r, e, _⟩ := h; exact ⟨_, e⟩
  | dT kvs => obtain ⟨r, e, _⟩ := h; exact ⟨_, e⟩
  | dN kvs => obtain ⟨o, es, ep, xs, e, _⟩ := h; exact ⟨_, e⟩
  | ins C fs => obtain ⟨dx, r, e, _⟩ := h; exact ⟨_, e⟩
theorem Ok.new {S : Store} {H : Hp} (ok : Ok K S H) {p : Addr} (h : H p = none) : S p = none := by
  cases e : S p with
  | none => rfl
  | some c =>
    obtain ⟨o, q⟩ := (ok.c p c e).there
    rw [h] at q; cases q
theorem COk.move {S S' : Store} {H H' : Hp} {a : Addr} {c : Cell} (st : Step S H S' H') (he : ∀ o, H a = some o → H' a = some o) (h : COk K S H a c) : COk K S' H' a c := by
  cases c with
  | hid vs => exact he _ h
  | lst xs => obtain ⟨vs, e, q⟩ := h; exact ⟨vs, he _ e, Rps.step st q⟩
  | dK kvs => obtain ⟨r, e, q⟩ := h; exact ⟨r, he _ e, RpK.step st q⟩
  | dT kvs => obtain ⟨r, e, q⟩ := h; exact ⟨r, he _ e, RpT.step st q⟩
  | dN kvs => obtain ⟨o, es, ep, xs, e, e1, e2, e3, e4, e5, e6, q⟩ := h; exact ⟨o, es, ep, xs, he _ e, e1, e2, e3, e4, e5, e6, RpN.step st q⟩
  | ins C fs => obtain ⟨dx, r, e, q⟩ := h; exact ⟨dx, r, he _ e, RpF.step st q⟩
/-- a new object that is no cell -/
theorem step_new {S : Store} {H : Hp} (ok : Ok K S H) {p : Addr} {o : HO} (h : H p = none) : Step S H S (upd H p o) := fun a u h1 h2 => ⟨h1, by rw [upd_ne (ne_of_none h2 h)]; exact h2⟩
theorem ok_new {S : Store} {H : Hp} (ok : Ok K S H) {p : Addr} {o : HO} (h : H p = none) (hz : SzO o) : Ok K S (upd H p o) := ⟨fun a c e =>
  COk.move (step_new ok h) (fun u q => by rw [upd_ne (ne_of_none q h)]; exact q) (ok.c a c e), ok.z.put hz⟩
/-- a new cell -/
theorem step_cell {S : Store} {H : Hp} (ok : Ok K S H) {p : Addr} {o : HO} {c : Cell} (h : H p = none) : Step S H (sup S p c) (upd H p o) := fun a u h1 h2 =>
  ⟨by rw [sup_ne (ne_of_none h2 h)]; exact h1, by rw [upd_ne (ne_of_none h2 h)]; exact h2⟩
theorem ok_cell {S : Store} {H : Hp} (ok : Ok K S H) {p : Addr} {o : HO} {c : Cell} (h : H p = none) (hz : SzO o) (hc : COk K (sup S p c) (upd H p o) p c) : Ok K (sup S p c) (upd H p o) := ⟨fun a d e => by
  by_cases ha : a = p
  · subst ha; rw [sup_same] at e; cases e; exact hc
  · rw [sup_ne ha] at e
    exact COk.move (step_cell ok h) (fun u q => by rw [upd_ne ha]; exact q) (ok.c a d e), ok.z.put hz⟩
/-- a cell changed -/
theorem step_put {S : Store} {H : Hp} {p : Addr} {o : HO} {c d : Cell} (h : S p = some d) : Step S H (sup S p c) (upd H p o) := fun a u h1 h2 => by
  have ne : a ≠ p := fun e => by subst e; rw [h] at h1; cases h1
  exact ⟨by rw [sup_ne ne]; exact h1, by rw [upd_ne ne]; exact h2⟩
theorem ok_put {S : Store} {H : Hp} (ok : Ok K S H) {p : Addr} {o : HO} {c d : Cell} (h : S p = some d) (hz : SzO o) (hc : COk K (sup S p c) (upd H p o) p c) : Ok K (sup S p c) (upd H p o) := ⟨fun a e q => by
  by_cases ha : a = p
  · subst ha; rw [sup_same] at q; cases q; exact hc
  · rw [sup_ne ha] at q
    exact COk.move (step_put h) (fun u z => by rw [upd_ne ha]; exact z) (ok.c a e q), ok.z.put hz⟩
/-- a cell given up -/
theorem step_del {S : Store} {H : Hp} {p : Addr} : Step S H (sdel S p) H := fun a u h1 h2 => ⟨by unfold sdel; split <;> first | rfl | exact h1, h2⟩
theorem ok_del {S : Store} {H : Hp} (ok : Ok K S H) {p : Addr} : Ok K (sdel S p) H := ⟨fun a c e => by
  have e2 : S a = some c := by
    unfold sdel at e
    split at e
    · cases e
    · exact e
  exact COk.move step_del (fun _ q => q) (ok.c a c e2), ok.z⟩
end
abbrev St := L2.St
abbrev AR := List (Option D)
abbrev VQ := D → Store → Prop
abbrev WE := AR → Store → VQ → Prop
abbrev WT := AR → Store → (Bool → Store → Prop) → Prop
abbrev WA := AR → Store → (List D → Store → Prop) → Prop
structure Bs where
  K : Kx
  S : Store
  H : Hp
structure Rel (B : Bs) (ρ : AR) (S : Store) (σ : St) (H : Hp) : Prop where
  st : Step B.S B.H S H
  ok : Ok B.K S H
  len : ρ.length = σ.length
  vs : ∀ (i : Nat) (d : D), ρ[i]? = some (some d) → ∃ v, σ[i]? = some (some v) ∧ Rp B.K S H d v
theorem Rel.step {B : Bs} {ρ : AR} {S S' : Store} {σ : St} {H H' : Hp} (r : Rel B ρ S σ H) (st : Step S H S' H') (ok : Ok B.K S' H') : Rel B ρ S' σ H' :=
  ⟨r.st.trans st, ok, r.len, fun i d e => let ⟨v, h1, h2⟩ := r.vs i d e; ⟨v, h1, h2.step st⟩⟩
/-- what is wanted behind a value -/
abbrev KK (K : Kx) (S : Store) (H : Hp) (Q : VQ) (k : VK) : Prop := ∀ v H' d S', Step S H S' H' → Ok K S' H' → Rp K S' H' d v → Q d S' → k v H'
theorem KK.here {K : Kx} {S : Store} {H : Hp} {Q : VQ} {k : VK} (h : KK K S H Q k) (ok : Ok K S H) {d : D} {v : V} (r : Rp K S H d v) (q : Q d S) : k v H := h v H d S Step.refl ok r q
/-- an expression's reading made of its meaning -/
def tw (B : Bs) (w : WE) : TE := fun σ H K => ∃ ρ S Q, Rel B ρ S σ H ∧ w ρ S Q ∧ KK B.K S H Q K
def twt (B : Bs) (w : WT) : TT := fun σ H K => ∃ ρ S Q, Rel B ρ S σ H ∧ w ρ S Q ∧ ∀ b H' S', Step S H S' H' → Ok B.K S' H' → Q b S' → K b H'
def twa (B : Bs) (w : WA) : TA := fun σ H K => ∃ ρ S Q, Rel B ρ S σ H ∧ w ρ S Q ∧ ∀ vs H' ds S', Step S H S' H' → Ok B.K S' H' → Rps B.K S' H' ds vs → Q ds S' → K vs H'
abbrev AE (B : Bs) (X : Cx) (e : Expr) (w : WE) : Prop := PE X e (tw B w)
abbrev AT (B : Bs) (X : Cx) (e : Expr) (w : WT) : Prop := PT X e (twt B w)
abbrev AA (B : Bs) (X : Cx) (es : List Expr) (w : WA) : Prop := PA X es (twa B w)
theorem PE.weak {X : Cx} {e : Expr} {t t' : TE} (h : PE X e t) (i : ∀ σ H K, t' σ H K → t σ H K) : PE X e t' := ⟨fun pins s σ H Q I q => h.run pins s σ H Q I (i _ _ _ q)⟩
theorem PT.weak {X : Cx} {e : Expr} {t t' : TT} (h : PT X e t) (i : ∀ σ H K, t' σ H K → t σ H K) : PT X e t' := ⟨fun pins s σ H Q I q => h.run pins s σ H Q I (i _ _ _ q)⟩
theorem PW.weak {X : Cx} {e : Expr} {t t' : TT} (h : PW X e t) (i : ∀ σ H K, t' σ H K → t σ H K) : PW X e t' := ⟨fun wh pins s σ H Q I q => h.run wh pins s σ H Q I (i _ _ _ q)⟩
theorem PA.weak {X : Cx} {es : List Expr} {t t' : TA} (h : PA X es t) (i : ∀ σ H K, t' σ H K → t σ H K) : PA X es t' := ⟨fun pos pins s σ H Q I q => h.run pos pins s σ H Q I (i _ _ _ q)⟩
theorem PS.weak {X : Cx} {st : Stmt} {t t' : TS} (h : PS X st t) (i : ∀ D σ H, t' D σ H → t D σ H) : PS X st t' := ⟨fun pins s σ H D I q => h.run pins s σ H D I (i _ _ _ q)⟩
theorem PSs.weak {X : Cx} {st : List Stmt} {t t' : TS} (h : PSs X st t) (i : ∀ D σ H, t' D σ H → t D σ H) : PSs X st t' := ⟨fun pins s σ H D I q => h.run pins s σ H D I (i _ _ _ q)⟩

/-! ### names, constants -/
def wVar (i : Nat) : WE := fun ρ S Q => ∃ d, ρ[i]? = some (some d) ∧ Q d S
def wC (d : D) : WE := fun _ S Q => Q d S
section
variable {B : Bs} {X : Cx} {a b e : Expr} {wa wb : WE} {pos : Pos}
theorem ae_var {i : Nat} {x : Str} (hN : X.N[i]? = some x := by rfl) (hv : Vis X.env.scope x := by first | exact Or.inl rfl | exact Or.inr (Or.inl rfl) | exact Or.inr (Or.inr rfl)) (hd : (x == ("__debug__" : Str)) = false := by decide)
    (hcd : (x == ("__classdict__" : Str)) = false := by decide) : AE B X (.Name x pos) (wVar i) :=
  PE.weak (pe_var hN hv hd hcd) fun σ H K ⟨ρ, S, Q, r, ⟨d, e, q⟩, k⟩ => let ⟨v, h1, h2⟩ := r.vs i d e; ⟨v, h1, k v H d S Step.refl r.ok h2 q⟩
theorem ae_const {d : D} {v : V} (h : PE X e (tC v)) (hr : ∀ S H, Rp B.K S H d v) : AE B X e (wC d) :=
  PE.weak h fun σ H K ⟨ρ, S, Q, r, q, k⟩ => k v H d S Step.refl r.ok (hr S H) q
theorem ae_int {i j pos} : AE B X (.Constant (.int i) j pos) (wC (.int i)) := ae_const pe_int fun _ _ => rfl
theorem ae_bl {i j pos} : AE B X (.Constant (.bool i) j pos) (wC (.bl i)) := ae_const pe_bl fun _ _ => rfl
theorem ae_non {j pos} : AE B X (.Constant .none j pos) (wC .non) := ae_const pe_non fun _ _ => rfl
theorem ae_str {i j pos} : AE B X (.Constant (.str i) j pos) (wC (.str i)) := ae_const pe_str fun _ _ => rfl

/-! ### two values -/
abbrev W2 := D → D → Store → VQ → Prop
def wOp (o : W2) (wa wb : WE) : WE := fun ρ S Q => wa ρ S fun x S1 => wb ρ S1 fun y S2 => o x y S2 Q
/-- a reading by values keeps a meaning by values -/
def SR (K : Kx) (r : R2) (o : W2) : Prop := ∀ x y d e S H Q k, Ok K S H → Rp K S H d x → Rp K S H e y → o d e S Q → KK K S H Q k → r x y H k
theorem tw_op {r : R2} {o : W2} (h : SR B.K r o) : ∀ σ H K, tw B (wOp o wa wb) σ H K → tOp r (tw B wa) (tw B wb) σ H K := fun σ H K ⟨ρ, S, Q, R, q, k⟩ =>
  ⟨ρ, S, _, R, q, fun v H1 d S1 st1 ok1 r1 q1 => ⟨ρ, S1, _, R.step st1 ok1, q1, fun u H2 e S2 st2 ok2 r2 q2 =>
    h v u d e S2 H2 Q K ok2 (r1.step st2) r2 q2 fun y H' f S' st ok rf qf => k y H' f S' ((st1.trans st2).trans st) ok rf qf⟩⟩
theorem ae_op {op : Operator} {r : R2} {o : W2} (ho : OpR X (binaryOp op) r) (hs : SR B.K r o) (ha : AE B X a wa) (hb : AE B X b wb) : AE B X (.BinOp a op b pos) (wOp o wa wb) :=
  PE.weak (pe_op ho ha hb) (tw_op hs)
theorem ae_cmp {op : CmpOp} {r : R2} {o : W2} (ho : OpR X (compareOp op) r) (hs : SR B.K r o) (ha : AE B X a wa) (hb : AE B X b wb) (hm : behindInMarks op b = false) : AE B X (.Compare a [op] [b] pos) (wOp o wa wb) :=
  PE.weak (pe_cmpR ho ha hb hm) (tw_op hs)
end
end KR
set_option Elab.async false
set_option linter.all false
set_option maxRecDepth 100000
namespace KR
open PySem PySem.Spec PyProof.Rows L2
section
variable {K : Kx} {S S' : Store} {H H' : Hp}
/-! ### lists of values by places -/
theorem Rps.length : ∀ {ds : List D} {vs : List V}, Rps K S H ds vs → ds.length = vs.length
  | [], _, h => by unfold Rps at h; subst h; rfl
  | d :: ds, _, h => by
    unfold Rps at h
    obtain ⟨v, r, rfl, _, h2⟩ := h
    simp [Rps.length h2]
theorem Rps.get : ∀ {ds : List D} {vs : List V} {i : Nat} {d : D}, Rps K S H ds vs → ds[i]? = some d → ∃ v, vs[i]? = some v ∧ Rp K S H d v
  | [], _, _, _, _, e => by simp at e
  | d :: ds, _, 0, _, h, e => by
    unfold Rps at h
    obtain ⟨v, r, rfl, h1, _⟩ := h
    simp at e; subst e
    exact ⟨v, rfl, h1⟩
  | d :: ds, _, i + 1, _, h, e => by
    unfold Rps at h
    obtain ⟨v, r, rfl, _, h2⟩ := h
    exact Rps.get (i := i) h2 (by simpa using e)
theorem Rps.nil : Rps K S H [] [] := by unfold Rps; rfl
theorem Rps.cons {d : D} {v : V} {ds : List D} {vs : List V} (h : Rp K S H d v) (r : Rps K S H ds vs) : Rps K S H (d :: ds) (v :: vs) := by unfold Rps; exact ⟨v, vs, rfl, h, r⟩
theorem Rps.uncons {d : D} {ds : List D} {vs : List V} (h : Rps K S H (d :: ds) vs) : ∃ v r, vs = v :: r ∧ Rp K S H d v ∧ Rps K S H ds r := by unfold Rps at h; exact h
theorem Rps.nil_of {vs : List V} (h : Rps K S H [] vs) : vs = [] := by unfold Rps at h; exact h
theorem Rps.append : ∀ {ds es : List D} {vs us : List V}, Rps K S H ds vs → Rps K S H es us → Rps K S H (ds ++ es) (vs ++ us)
  | [], _, _, _, h, q => by rw [h.nil_of]; exact q
  | d :: ds, _, _, _, h, q => by
    obtain ⟨v, r, rfl, h1, h2⟩ := h.uncons
    exact Rps.cons h1 (Rps.append h2 q)
theorem Rps.take : ∀ {ds : List D} {vs : List V} (n : Nat), Rps K S H ds vs → Rps K S H (ds.take n) (vs.take n)
  | [], _, n, h => by rw [h.nil_of]; simpa using Rps.nil
  | d :: ds, _, 0, h => by simpa using Rps.nil
  | d :: ds, _, n + 1, h => by
    obtain ⟨v, r, rfl, h1, h2⟩ := h.uncons
    exact Rps.cons h1 (Rps.take n h2)
theorem Rps.drop : ∀ {ds : List D} {vs : List V} (n : Nat), Rps K S H ds vs → Rps K S H (ds.drop n) (vs.drop n)
  | [], _, n, h => by rw [h.nil_of]; simpa using Rps.nil
  | d :: ds, _, 0, h => h
  | d :: ds, _, n + 1, h => by
    obtain ⟨v, r, rfl, h1, h2⟩ := h.uncons
    exact Rps.drop n h2
theorem Rps.set {d : D} {v : V} (hv : Rp K S H d v) : ∀ {ds : List D} {vs : List V} (i : Nat), Rps K S H ds vs → Rps K S H (ds.set i d) (vs.set i v)
  | [], _, n, h => by rw [h.nil_of]; exact Rps.nil
  | _ :: ds, _, 0, h => by
    obtain ⟨_, r, rfl, _, h2⟩ := h.uncons
    exact Rps.cons hv h2
  | _ :: ds, _, n + 1, h => by
    obtain ⟨_, r, rfl, h1, h2⟩ := h.uncons
    exact Rps.cons h1 (Rps.set hv n h2)
theorem Rps.eraseIdx : ∀ {ds : List D} {vs : List V} (i : Nat), Rps K S H ds vs → Rps K S H (ds.eraseIdx i) (vs.eraseIdx i)
  | [], _, n, h => by rw [h.nil_of]; exact Rps.nil
  | _ :: ds, _, 0, h => by
    obtain ⟨_, r, rfl, _, h2⟩ := h.uncons
    exact h2
  | _ :: ds, _, n + 1, h => by
    obtain ⟨_, r, rfl, h1, h2⟩ := h.uncons
    exact Rps.cons h1 (Rps.eraseIdx n h2)
theorem Rps.map {α : Type} {f : α → D} {g : α → V} (h : ∀ a, Rp K S H (f a) (g a)) : ∀ xs : List α, Rps K S H (xs.map f) (xs.map g)
  | [] => Rps.nil
  | a :: xs => Rps.cons (h a) (Rps.map h xs)
theorem Rps.rep {d : D} {v : V} (h : Rp K S H d v) : ∀ n, Rps K S H (List.replicate n d) (List.replicate n v)
  | 0 => Rps.nil
  | n + 1 => Rps.cons h (Rps.rep h n)
theorem Rps.repL {ds : List D} {vs : List V} (h : Rps K S H ds vs) : ∀ n, Rps K S H (List.replicate n ds).flatten (List.replicate n vs).flatten
  | 0 => Rps.nil
  | n + 1 => by
    rw [List.replicate_succ, List.replicate_succ, List.flatten_cons, List.flatten_cons]
    exact h.append (Rps.repL h n)
theorem Rps.ints (ns : List Int) : Rps K S H (ns.map D.int) (ns.map V.int) := Rps.map (fun _ => by unfold Rp; rfl) ns
theorem Rps.strs (ns : List Str) : Rps K S H (ns.map D.str) (ns.map V.str) := Rps.map (fun _ => by unfold Rp; rfl) ns
theorem Rps.of_ints : ∀ {ns : List Int} {vs : List V}, Rps K S H (ns.map D.int) vs → vs = ns.map V.int
  | [], _, h => h.nil_of
  | n :: ns, _, h => by
    obtain ⟨v, r, rfl, h1, h2⟩ := Rps.uncons h
    rw [show v = V.int n from (by unfold Rp at h1; exact h1), Rps.of_ints h2]; rfl
theorem Rps.of_strs : ∀ {ns : List Str} {vs : List V}, Rps K S H (ns.map D.str) vs → vs = ns.map V.str
  | [], _, h => h.nil_of
  | n :: ns, _, h => by
    obtain ⟨v, r, rfl, h1, h2⟩ := Rps.uncons h
    rw [show v = V.str n from (by unfold Rp at h1; exact h1), Rps.of_strs h2]; rfl
theorem Rps.of_bls : ∀ {ns : List Bool} {vs : List V}, Rps K S H (ns.map D.bl) vs → vs = ns.map V.bl
  | [], _, h => h.nil_of
  | n :: ns, _, h => by
    obtain ⟨v, r, rfl, h1, h2⟩ := Rps.uncons h
    rw [show v = V.bl n from (by unfold Rp at h1; exact h1), Rps.of_bls h2]; rfl
theorem Rps.last {ds : List D} {d : D} {vs : List V} (h : Rps K S H (ds ++ [d]) vs) : ∃ us v, vs = us ++ [v] ∧ Rps K S H ds us ∧ Rp K S H d v := by
  have hl : (ds ++ [d]).length = vs.length := h.length
  have h1 := h.take ds.length
  have h2 := h.drop ds.length
  rw [List.take_left] at h1
  rw [List.drop_left] at h2
  obtain ⟨v, r, e, q1, q2⟩ := h2.uncons
  rw [q2.nil_of] at e
  exact ⟨_, v, by rw [← e, List.take_append_drop], h1, q1⟩

/-! ### views -/
def asL (S : Store) : D → Option (List D)
  | .lst xs => some xs
  | .scr ns => some (ns.map .int)
  | .ref a => match S a with
    | some (.lst xs) => some xs
    | _ => none
  | _ => none
/-- a list that is not the script -/
def asX (S : Store) : D → Option (List D)
  | .lst xs => some xs
  | .ref a => match S a with
    | some (.lst xs) => some xs
    | _ => none
  | _ => none
def asT : D → Option (List D)
  | .tup xs => some xs
  | .kt xs => some (xs.map .str)
  | .tupz xs => some xs
  | _ => none
def asK (S : Store) : D → Option (List (Key × D))
  | .dK kvs => some kvs
  | .ref a => match S a with
    | some (.dK kvs) => some kvs
    | _ => none
  | _ => none
def asDT (S : Store) : D → Option (List (List Key × D))
  | .dT kvs => some kvs
  | .ref a => match S a with
    | some (.dT kvs) => some kvs
    | _ => none
  | _ => none
def asN (S : Store) : D → Option (List (NestedKey × D))
  | .dN kvs => some kvs
  | .ref a => match S a with
    | some (.dN kvs) => some kvs
    | _ => none
  | _ => none
def asI (S : Store) : D → Option (Addr × List (Str × D))
  | .ins C fs => some (C, fs)
  | .ref a => match S a with
    | some (.ins C fs) => some (C, fs)
    | _ => none
  | _ => none
theorem asL_ref {a : Addr} {xs : List D} (h : asL S (.ref a) = some xs) : S a = some (.lst xs) := by
  have h : (match S a with
    | some (.lst xs) => some xs
    | _ => none) = some xs := h
  cases e : S a with
  | none => rw [e] at h; cases h
  | some c =>
    rw [e] at h
    cases c with
    | lst ys => cases h; rfl
    | _ => cases h
theorem asX_ref {a : Addr} {xs : List D} (h : asX S (.ref a) = some xs) : S a = some (.lst xs) := by
  have h : (match S a with
    | some (.lst xs) => some xs
    | _ => none) = some xs := h
  cases e : S a with
  | none => rw [e] at h; cases h
  | some c =>
    rw [e] at h
    cases c with
    | lst ys => cases h; rfl
    | _ => cases h
theorem asK_ref {a : Addr} {xs : List (Key × D)} (h : asK S (.ref a) = some xs) : S a = some (.dK xs) := by
  have h : (match S a with
    | some (.dK xs) => some xs
    | _ => none) = some xs := h
  cases e : S a with
  | none => rw [e] at h; cases h
  | some c =>
    rw [e] at h
    cases c with
    | dK ys => cases h; rfl
    | _ => cases h
theorem asDT_ref {a : Addr} {xs : List (List Key × D)} (h : asDT S (.ref a) = some xs) : S a = some (.dT xs) := by
  have h : (match S a with
    | some (.dT xs) => some xs
    | _ => none) = some xs := h
  cases e : S a with
  | none => rw [e] at h; cases h
  | some c =>
    rw [e] at h
    cases c with
    | dT ys => cases h; rfl
    | _ => cases h
theorem asI_ref {a C : Addr} {fs : List (Str × D)} (h : asI S (.ref a) = some (C, fs)) : S a = some (.ins C fs) := by
  have h : (match S a with
    | some (.ins C fs) => some (C, fs)
    | _ => none) = some (C, fs) := h
  cases e : S a with
  | none => rw [e] at h; cases h
  | some c =>
    rw [e] at h
    cases c with
    | ins D ys => cases h; rfl
    | _ => cases h
theorem asX_ok {d : D} {v : V} {xs : List D} (ok : Ok K S H) (r : Rp K S H d v) (h : asX S d = some xs) : ∃ a vs, v = .ref a ∧ H a = some (.lst vs) ∧ Rps K S H xs vs := by
  cases d with
  | lst ys =>
    cases h
    unfold Rp at r
    obtain ⟨a, vs, e, _, hh, q⟩ := r
    exact ⟨a, vs, e, hh, q⟩
  | ref a =>
    have e : S a = some (.lst xs) := asX_ref h
    obtain ⟨vs, hh, q⟩ := ok.c a _ e
    exact ⟨a, vs, by unfold Rp at r; exact r, hh, q⟩
  | _ => cases h
theorem asL_ok {d : D} {v : V} {xs : List D} (ok : Ok K S H) (r : Rp K S H d v) (h : asL S d = some xs) : ∃ a vs, v = .ref a ∧ SqL K.K H a vs ∧ Rps K S H xs vs := by
  cases d with
  | lst ys =>
    obtain ⟨a, vs, e, hh, q⟩ := asX_ok ok r (xs := xs) (by exact h)
    exact ⟨a, vs, e, .of hh, q⟩
  | ref a =>
    obtain ⟨a, vs, e, hh, q⟩ := asX_ok ok r (xs := xs) (by exact h)
    exact ⟨a, vs, e, .of hh, q⟩
  | scr ns =>
    cases h
    unfold Rp at r
    obtain ⟨a, e, r⟩ := r
    refine ⟨a, ns.map V.int, e, ?_, Rps.ints ns⟩
    rcases r with ⟨_, h⟩ | h
    · exact .inl h
    · exact .inr h
  | _ => cases h
theorem asT_ok {d : D} {v : V} {xs : List D} (r : Rp K S H d v) (h : asT d = some xs) : ∃ a vs, v = .ref a ∧ SqT K.K H a vs ∧ Rps K S H xs vs := by
  cases d with
  | tup ys =>
    cases h
    unfold Rp at r
    obtain ⟨a, vs, e, _, hh, q⟩ := r
    exact ⟨a, vs, e, .of hh, q⟩
  | kt ys =>
    cases h
    unfold Rp at r
    obtain ⟨a, e, q⟩ := r
    exact ⟨a, _, e, .inr q, Rps.strs ys⟩
  | tupz ys =>
    cases h
    unfold Rp at r
    obtain ⟨a, o, vs, e, _, hh, _, q⟩ := r
    exact ⟨a, vs, e, .inl (.inr ⟨o, hh⟩), q⟩
  | _ => cases h
theorem sql_len {a : Addr} {vs : List V} (ok : Ok K S H) (h : SqL K.K H a vs) : vs.length ≤ sizeLine := by
  rcases h with h | ⟨o, its, n, _, _, _, _, hz, r⟩
  · exact ok.z a vs (.inl h)
  · have e := r.length
    simp only [Array.length_toList] at e
    omega
theorem sqt_len {a : Addr} {vs : List V} (ok : Ok K S H) (h : SqT K.K H a vs) : vs.length ≤ sizeLine := by
  rcases h with h | ⟨o, its, n, _, _, _, hz, r⟩
  · exact ok.z a vs (.inr h)
  · have e := r.length
    simp only [Array.length_toList] at e
    omega
theorem asT_ok2 {d : D} {v : V} {xs : List D} (ok : Ok K S H) (r : Rp K S H d v) (h : asT d = some xs) : ∃ a vs, v = .ref a ∧ SqT K.K H a vs ∧ Rps K S H xs vs ∧ vs.length ≤ sizeLine :=
  let ⟨a, vs, e, g, q⟩ := asT_ok r h
  ⟨a, vs, e, g, q, sqt_len ok g⟩
theorem asK_ok {d : D} {v : V} {kvs : List (Key × D)} (ok : Ok K S H) (r : Rp K S H d v) (h : asK S d = some kvs) : ∃ a q, v = .ref a ∧ Rd H a (.dK q) ∧ RpK K S H kvs q := by
  cases d with
  | dK ys =>
    cases h
    unfold Rp at r
    obtain ⟨a, o, q, e, _, hh, z⟩ := r
    exact ⟨a, q, e, .inr ⟨o, hh⟩, z⟩
  | ref a =>
    have e : S a = some (.dK kvs) := asK_ref h
    obtain ⟨q, hh, z⟩ := ok.c a _ e
    exact ⟨a, q, by unfold Rp at r; exact r, .inl hh, z⟩
  | _ => cases h
theorem asDT_ok {d : D} {v : V} {kvs : List (List Key × D)} (ok : Ok K S H) (r : Rp K S H d v) (h : asDT S d = some kvs) : ∃ a q, v = .ref a ∧ Rd H a (.dT q) ∧ RpT K S H kvs q := by
  cases d with
  | dT ys =>
    cases h
    unfold Rp at r
    obtain ⟨a, o, q, e, _, hh, z⟩ := r
    exact ⟨a, q, e, .inr ⟨o, hh⟩, z⟩
  | ref a =>
    have e : S a = some (.dT kvs) := asDT_ref h
    obtain ⟨q, hh, z⟩ := ok.c a _ e
    exact ⟨a, q, by unfold Rp at r; exact r, .inl hh, z⟩
  | _ => cases h
theorem asI_ok {d : D} {v : V} {C : Addr} {fs : List (Str × D)} (ok : Ok K S H) (r : Rp K S H d v) (h : asI S d = some (C, fs)) : ∃ a dx q, v = .ref a ∧ H a = some (.ins C dx q) ∧ RpF K S H fs q := by
  cases d with
  | ins C' ys =>
    cases h
    unfold Rp at r
    obtain ⟨a, dx, q, e, _, hh, z⟩ := r
    exact ⟨a, dx, q, e, hh, z⟩
  | ref a =>
    have e : S a = some (.ins C fs) := asI_ref h
    obtain ⟨dx, q, hh, z⟩ := ok.c a _ e
    exact ⟨a, dx, q, by unfold Rp at r; exact r, hh, z⟩
  | _ => cases h

/-! ### new objects -/
/-- a new list, told as a tree, or as a cell -/
def newL (m : Bool) (xs : List D) (S : Store) (Q : VQ) : Prop := match m with
  | false => Q (.lst xs) S
  | true => ∀ p, S p = none → Q (.ref p) (sup S p (.lst xs))
theorem newL_ok {m : Bool} {xs : List D} {vs : List V} {Q : VQ} {k : VK} (ok : Ok K S H) (r : Rps K S H xs vs) (hz : vs.length ≤ sizeLine) (q : newL m xs S Q) (h : KK K S H Q k) : ∀ p, H p = none → k (.ref p) (upd H p (.lst vs)) := fun p hp => by
  have hs := ok.new hp
  cases m with
  | false =>
    have st := step_new ok hp (o := .lst vs)
    refine h _ _ _ S st (ok_new ok hp hz) ?_ q
    unfold Rp
    exact ⟨p, vs, rfl, hs, upd_same, Rps.step st r⟩
  | true =>
    have st := step_cell ok hp (o := .lst vs) (c := .lst xs)
    exact h _ _ _ _ st (ok_cell ok hp hz ⟨vs, upd_same, Rps.step st r⟩) (by unfold Rp; rfl) (q p hs)
def newT (xs : List D) (S : Store) (Q : VQ) : Prop := Q (.tup xs) S
theorem newT_ok {xs : List D} {vs : List V} {Q : VQ} {k : VK} (ok : Ok K S H) (r : Rps K S H xs vs) (hz : vs.length ≤ sizeLine) (q : newT xs S Q) (h : KK K S H Q k) : ∀ p, H p = none → k (.ref p) (upd H p (.tup vs)) := fun p hp => by
  have hs := ok.new hp
  have st := step_new ok hp (o := .tup vs)
  refine h _ _ _ S st (ok_new ok hp hz) ?_ q
  unfold Rp
  exact ⟨p, vs, rfl, hs, upd_same, Rps.step st r⟩
end
end KR
set_option Elab.async false
set_option linter.all false
set_option maxRecDepth 100000
set_option maxHeartbeats 2000000
namespace KR
open PySem PySem.Spec PyProof.Rows L2
section
variable {K : Kx} {S S' : Store} {H H' : Hp} {v : V}
theorem rp_non : Rp K S H .non .non := by unfold Rp; rfl
theorem rp_bl {b : Bool} : Rp K S H (.bl b) (.bl b) := by unfold Rp; rfl
theorem rp_int {b : Int} : Rp K S H (.int b) (.int b) := by unfold Rp; rfl
theorem rp_str {b : Str} : Rp K S H (.str b) (.str b) := by unfold Rp; rfl
theorem rp_ref {b : Addr} : Rp K S H (.ref b) (.ref b) := by unfold Rp; rfl
theorem of_non (h : Rp K S H .non v) : v = .non := by unfold Rp at h; exact h
theorem of_bl {b : Bool} (h : Rp K S H (.bl b) v) : v = .bl b := by unfold Rp at h; exact h
theorem of_int {b : Int} (h : Rp K S H (.int b) v) : v = .int b := by unfold Rp at h; exact h
theorem of_str {b : Str} (h : Rp K S H (.str b) v) : v = .str b := by unfold Rp at h; exact h
theorem of_ref {b : Addr} (h : Rp K S H (.ref b) v) : v = .ref b := by unfold Rp at h; exact h
theorem SR.or {r r' : R2} {o o' : W2} (h : SR K r o) (h' : SR K r' o') : SR K (fun x y H Q => r x y H Q ∨ r' x y H Q) (fun x y S Q => o x y S Q ∨ o' x y S Q) := by
  intro x y d e S H Q k ok rx ry q hk
  rcases q with q | q
  · exact .inl (h x y d e S H Q k ok rx ry q hk)
  · exact .inr (h' x y d e S H Q k ok rx ry q hk)
theorem SR.weak {r : R2} {o o' : W2} (h : SR K r o) (w : ∀ x y S Q, o' x y S Q → o x y S Q) : SR K r o' := fun x y d e S H Q k ok rx ry q hk => h x y d e S H Q k ok rx ry (w _ _ _ _ q) hk

/-! ### numbers -/
def oI (C : Int → Int → Prop) (g : Int → Int → D) : W2 := fun x y S Q => match x, y with
  | .int i, .int j => C i j ∧ Q (g i j) S
  | _, _ => False
theorem sr_I {C : Int → Int → Prop} {g : Int → Int → V} {g' : Int → Int → D} (hg : ∀ i j S H, Rp K S H (g' i j) (g i j)) : SR K (rI C g) (oI C g') := by
  intro x y d e S H Q k ok rx ry q hk
  unfold oI at q
  split at q
  · obtain ⟨c, q⟩ := q
    exact ⟨_, _, of_int rx, of_int ry, c, hk.here ok (hg _ _ _ _) q⟩
  · exact q.elim
theorem sr_I0 {g : Int → Int → V} {g' : Int → Int → D} (hg : ∀ i j S H, Rp K S H (g' i j) (g i j)) : SR K (rI0 g) (oI (fun _ _ => True) g') := by
  intro x y d e S H Q k ok rx ry q hk
  unfold oI at q
  split at q
  · exact ⟨_, _, of_int rx, of_int ry, hk.here ok (hg _ _ _ _) q.2⟩
  · exact q.elim
/-- + : ints, texts, tuples, lists (m: the new list is a cell) -/
def oAdd (m : Bool) : W2 := fun x y S Q => match x, y with
  | .int i, .int j => Q (.int (i + j)) S
  | .str i, .str j => i.length + j.length ≤ sizeLine ∧ Q (.str (i ++ j)) S
  | .tup xs, .tup ys => xs.length + ys.length ≤ sizeLine ∧ Q (.tup (xs ++ ys)) S
  | x, y => match asX S x, asX S y with
    | some xs, some ys => xs.length + ys.length ≤ sizeLine ∧ newL m (xs ++ ys) S Q
    | _, _ => False
def rAddAll (K : PySem.W.Frag) : R2 := fun x y H Q => (∃ i j, x = .int i ∧ y = .int j ∧ Q (.int (i + j)) H) ∨ (∃ i j, x = .str i ∧ y = .str j ∧ i.length + j.length ≤ sizeLine ∧ Q (.str (i ++ j)) H) ∨ rCatA K x y H Q ∨ rCat x y H Q
theorem op_addAll {X : Cx} : OpR X (binaryOp .Add) (rAddAll X.K) := OpR.or op_add (OpR.or op_add_str (OpR.or op_catA op_cat))
theorem of_tup {xs : List D} (h : Rp K S H (.tup xs) v) : ∃ a vs, v = .ref a ∧ S a = none ∧ H a = some (.tup vs) ∧ Rps K S H xs vs := by unfold Rp at h; exact h
theorem of_lst {xs : List D} (h : Rp K S H (.lst xs) v) : ∃ a vs, v = .ref a ∧ S a = none ∧ H a = some (.lst vs) ∧ Rps K S H xs vs := by unfold Rp at h; exact h
theorem rp_tup {xs : List D} {a : Addr} {vs : List V} (hs : S a = none) (hh : H a = some (.tup vs)) (r : Rps K S H xs vs) : Rp K S H (.tup xs) (.ref a) := by unfold Rp; exact ⟨a, vs, rfl, hs, hh, r⟩
theorem rp_lst {xs : List D} {a : Addr} {vs : List V} (hs : S a = none) (hh : H a = some (.lst vs)) (r : Rps K S H xs vs) : Rp K S H (.lst xs) (.ref a) := by unfold Rp; exact ⟨a, vs, rfl, hs, hh, r⟩
theorem sr_add {m : Bool} : SR K (rAddAll K.K) (oAdd m) := by
  intro x y d e S H Q k ok rx ry q hk
  unfold oAdd at q
  split at q
  · exact .inl ⟨_, _, of_int rx, of_int ry, hk.here ok rp_int q⟩
  · exact .inr (.inl ⟨_, _, of_str rx, of_str ry, q.1, hk.here ok rp_str q.2⟩)
  · obtain ⟨a, vs, rfl, s1, h1, r1⟩ := of_tup rx
    obtain ⟨b, us, rfl, s2, h2, r2⟩ := of_tup ry
    have l1 := r1.length
    have l2 := r2.length
    have hz : vs.length + us.length ≤ sizeLine := by rw [← l1, ← l2]; exact q.1
    refine .inr (.inr (.inl ⟨a, b, vs, us, rfl, rfl, .of h1, .of h2, hz, fun e => ?_, fun ne e => ?_, fun ne ne2 => ?_⟩))
    · subst e
      have e1 := List.length_eq_zero_iff.mp l1
      subst e1
      exact hk.here ok (rp_tup s2 h2 (by simpa using r2)) q.2
    · subst e
      have e1 := List.length_eq_zero_iff.mp l2
      subst e1
      exact hk.here ok (rp_tup s1 h1 (by simpa using r1)) q.2
    · exact newT_ok ok (r1.append r2) (by rw [List.length_append]; exact hz) q.2 hk
  · split at q
    · rename_i xs ys ex ey
      obtain ⟨a, vs, rfl, h1, r1⟩ := asX_ok ok rx ex
      obtain ⟨b, us, rfl, h2, r2⟩ := asX_ok ok ry ey
      have l1 := r1.length
      have l2 := r2.length
      have hz : vs.length + us.length ≤ sizeLine := by rw [← l1, ← l2]; exact q.1
      exact .inr (.inr (.inr ⟨a, b, vs, us, rfl, rfl, h1, h2, hz, newL_ok ok (r1.append r2) (by rw [List.length_append]; exact hz) q.2 hk⟩))
    · exact q.elim
abbrev oSub : W2 := oI (fun _ _ => True) fun i j => .int (i - j)
abbrev oDiv : W2 := oI CDiv fun i j => .int (i / j)
abbrev oMod : W2 := oI (fun _ j => 0 < j) fun i j => .int (i % j)
abbrev oPow : W2 := oI CPow fun i j => .int (i ^ j.toNat)
/-- * : ints, a list -/
def oMul (m : Bool) : W2 := fun x y S Q => match x, y with
  | .int i, .int j => CMul i j ∧ Q (.int (i * j)) S
  | x, .int k => match asX S x with
    | some xs => (-(2 ^ 63) ≤ k ∧ k < 2 ^ 63 ∧ xs.length * k.toNat ≤ sizeLine) ∧ newL m (List.replicate k.toNat xs).flatten S Q
    | _ => False
  | _, _ => False
def rMulAll : R2 := fun x y H Q => rI CMul (fun i j => .int (i * j)) x y H Q ∨ rRep x y H Q
theorem op_mulAll {X : Cx} : OpR X (binaryOp .Mult) rMulAll := OpR.or op_mul op_rep
theorem sr_mul {m : Bool} : SR K rMulAll (oMul m) := by
  intro x y d e S H Q k ok rx ry q hk
  unfold oMul at q
  split at q
  · exact .inl ⟨_, _, of_int rx, of_int ry, q.1, hk.here ok rp_int q.2⟩
  · split at q
    · rename_i xs ex
      obtain ⟨a, vs, rfl, h1, r1⟩ := asX_ok ok rx ex
      have l1 := r1.length
      obtain ⟨⟨c1, c2, c3⟩, q⟩ := q
      refine .inr ⟨a, _, vs, rfl, of_int ry, h1, c1, c2, by rw [← l1]; exact c3, newL_ok ok (r1.repL _) ?_ q hk⟩
      rw [PyProof.Rows.lm_len_rep_flat, Nat.mul_comm, ← l1]
      exact c3
    · exact q.elim
  · exact q.elim

/-! ### order -/
def oCmp (p : Int → Int → Bool) (ps : Str → Str → Bool) : W2 := fun x y S Q => match x, y with
  | .int i, .int j => Q (.bl (p i j)) S
  | .str i, .str j => Q (.bl (ps i j)) S
  | _, _ => False
theorem sr_cmp {p : Int → Int → Bool} {ps : Str → Str → Bool} : SR K (fun x y H Q => rI0 (fun i j => .bl (p i j)) x y H Q ∨ ∃ i j, x = .str i ∧ y = .str j ∧ Q (.bl (ps i j)) H) (oCmp p ps) := by
  intro x y d e S H Q k ok rx ry q hk
  unfold oCmp at q
  split at q
  · exact .inl ⟨_, _, of_int rx, of_int ry, hk.here ok rp_bl q⟩
  · exact .inr ⟨_, _, of_str rx, of_str ry, hk.here ok rp_bl q⟩
  · exact q.elim
abbrev sLt (i j : Str) : Bool := decide (i.cps.toList < j.cps.toList)
abbrev oLt : W2 := oCmp (fun i j => decide (i < j)) (fun i j => sLt i j)
abbrev oLe : W2 := oCmp (fun i j => decide (i ≤ j)) (fun i j => !sLt j i)
abbrev oGt : W2 := oCmp (fun i j => decide (j < i)) (fun i j => sLt j i)
abbrev oGe : W2 := oCmp (fun i j => decide (j ≤ i)) (fun i j => !sLt i j)
theorem op_ltA {X : Cx} : OpR X (compareOp .Lt) (fun x y H Q => rI0 (fun i j => .bl (decide (i < j))) x y H Q ∨ ∃ i j, x = .str i ∧ y = .str j ∧ Q (.bl (sLt i j)) H) := OpR.or op_lt op_lt_str
theorem op_leA {X : Cx} : OpR X (compareOp .LtE) (fun x y H Q => rI0 (fun i j => .bl (decide (i ≤ j))) x y H Q ∨ ∃ i j, x = .str i ∧ y = .str j ∧ Q (.bl (!sLt j i)) H) := OpR.or op_le op_le_str
theorem op_gtA {X : Cx} : OpR X (compareOp .Gt) (fun x y H Q => rI0 (fun i j => .bl (decide (j < i))) x y H Q ∨ ∃ i j, x = .str i ∧ y = .str j ∧ Q (.bl (sLt j i)) H) := OpR.or op_gt op_gt_str
theorem op_geA {X : Cx} : OpR X (compareOp .GtE) (fun x y H Q => rI0 (fun i j => .bl (decide (j ≤ i))) x y H Q ∨ ∃ i j, x = .str i ∧ y = .str j ∧ Q (.bl (!sLt i j)) H) := OpR.or op_ge op_ge_str

/-! ### == -/
mutual
inductive Pv (S : Store) : D → PyData → Prop
  | non : Pv S .non .none
  | bl (b : Bool) : Pv S (.bl b) (.bool b)
  | int (i : Int) : Pv S (.int i) (.int i)
  | str (x : Str) : Pv S (.str x) (.str x)
  | lst {d : D} {xs : List D} {ps : List PyData} : asL S d = some xs → PvAll S xs ps → Pv S d (.list ps)
  | tup {d : D} {xs : List D} {ps : List PyData} : asT d = some xs → PvAll S xs ps → Pv S d (.tuple ps)
inductive PvAll (S : Store) : List D → List PyData → Prop
  | nil : PvAll S [] []
  | cons {d : D} {ds : List D} {p : PyData} {ps : List PyData} : Pv S d p → PvAll S ds ps → PvAll S (d :: ds) (p :: ps)
end
mutual
theorem Pv.dp (ok : Ok K S H) : ∀ {p : PyData} {d : D} {v : V}, Pv S d p → Rp K S H d v → Dp K.K H v p
  | .none, _, _, h, r => by cases h; rw [of_non r]; exact .non
  | .bool _, _, _, h, r => by cases h; rw [of_bl r]; exact .bl _
  | .int _, _, _, h, r => by cases h; rw [of_int r]; exact .int _
  | .str _, _, _, h, r => by cases h; rw [of_str r]; exact .str _
  | .list ps, _, _, h, r => by
    cases h with
    | lst e hs =>
      obtain ⟨a, vs, rfl, h1, r1⟩ := asL_ok ok r e
      exact .lst h1 (PvAll.dp ok hs r1)
  | .tuple ps, _, _, h, r => by
    cases h with
    | tup e hs =>
      obtain ⟨a, vs, rfl, h1, r1⟩ := asT_ok r e
      exact .tup h1 (PvAll.dp ok hs r1)
  | .dict _, _, _, h, _ => by cases h
theorem PvAll.dp (ok : Ok K S H) : ∀ {ps : List PyData} {ds : List D} {vs : List V}, PvAll S ds ps → Rps K S H ds vs → DpAll K.K H vs ps
  | [], _, _, h, r => by cases h; rw [r.nil_of]; exact .nil
  | p :: ps, _, _, h, r => by
    cases h with
    | cons h1 h2 =>
      obtain ⟨v, us, rfl, r1, r2⟩ := r.uncons
      exact .cons (Pv.dp ok h1 r1) (PvAll.dp ok h2 r2)
end
/-- the values that == tells apart at once -/
def flatE : D → D → Option Bool
  | .int i, .int j => some (decide (i = j))
  | .str i, .str j => some (decide (i = j))
  | .bl i, .bl j => some (decide (i = j))
  | .non, .non => some true
  | .non, .int _ => some false | .int _, .non => some false | .non, .bl _ => some false | .bl _, .non => some false | .non, .str _ => some false | .str _, .non => some false
  | .int _, .str _ => some false | .str _, .int _ => some false | .bl _, .str _ => some false | .str _, .bl _ => some false
  | _, _ => none
def oEq (neg : Bool) : W2 := fun x y S Q => match flatE x y with
  | some b => Q (.bl (b != neg)) S
  | none => ∃ p q, Pv S x p ∧ Pv S y q ∧ SeqAt.shaped p = true ∧ SeqAt.shaped q = true ∧ Q (.bl (PyData.eqv p q != neg)) S
def rEqA (K : PySem.W.Frag) (neg : Bool) : R2 := fun x y H Q => (scal x y = true ∧ Q (.bl (decide (x = y) != neg)) H) ∨ ∃ d e, Dp K H x d ∧ Dp K H y e ∧ SeqAt.shaped d = true ∧ SeqAt.shaped e = true ∧ Q (.bl (PyData.eqv d e != neg)) H
theorem op_eqA {X : Cx} (hu : X.A.units + 64 < cLine) : OpR X (compareOp .Eq) (rEqA X.K false) := by
  refine fun pins s σ H x y v u Q I rx ry h => OpR.or op_eq (op_eqD hu) pins s σ H x y v u Q I rx ry ?_
  rcases h with ⟨h1, h2⟩ | ⟨d, e, h1, h2, h3, h4, h5⟩
  · exact .inl ⟨h1, by simpa using h2⟩
  · exact .inr ⟨d, e, h1, h2, h3, h4, by simpa using h5⟩
theorem op_neA {X : Cx} (hu : X.A.units + 64 < cLine) : OpR X (compareOp .NotEq) (rEqA X.K true) := by
  refine fun pins s σ H x y v u Q I rx ry h => OpR.or op_ne (op_neD hu) pins s σ H x y v u Q I rx ry ?_
  rcases h with ⟨h1, h2⟩ | ⟨d, e, h1, h2, h3, h4, h5⟩
  · exact .inl ⟨h1, by simpa using h2⟩
  · exact .inr ⟨d, e, h1, h2, h3, h4, by simpa using h5⟩
theorem sr_eq {neg : Bool} : SR K (rEqA K.K neg) (oEq neg) := by
  intro x y d e S H Q k ok rx ry q hk
  unfold oEq at q
  split at q
  · rename_i b hb
    unfold flatE at hb
    split at hb
    all_goals first
      | (cases hb; rw [of_int rx, of_int ry]; exact .inl ⟨rfl, by have := hk.here ok rp_bl q; simpa using this⟩)
      | (cases hb; rw [of_str rx, of_str ry]; exact .inl ⟨rfl, by have := hk.here ok rp_bl q; simpa using this⟩)
      | (cases hb; rw [of_bl rx, of_bl ry]; exact .inl ⟨rfl, by have := hk.here ok rp_bl q; simpa using this⟩)
      | (cases hb; rw [of_non rx, of_non ry]; exact .inl ⟨rfl, by have := hk.here ok rp_bl q; simpa using this⟩)
      | (cases hb; rw [of_non rx, of_int ry]; exact .inl ⟨rfl, by have := hk.here ok rp_bl q; simpa using this⟩)
      | (cases hb; rw [of_int rx, of_non ry]; exact .inl ⟨rfl, by have := hk.here ok rp_bl q; simpa using this⟩)
      | (cases hb; rw [of_non rx, of_bl ry]; exact .inl ⟨rfl, by have := hk.here ok rp_bl q; simpa using this⟩)
      | (cases hb; rw [of_bl rx, of_non ry]; exact .inl ⟨rfl, by have := hk.here ok rp_bl q; simpa using this⟩)
      | (cases hb; rw [of_non rx, of_str ry]; exact .inl ⟨rfl, by have := hk.here ok rp_bl q; simpa using this⟩)
      | (cases hb; rw [of_str rx, of_non ry]; exact .inl ⟨rfl, by have := hk.here ok rp_bl q; simpa using this⟩)
      | (cases hb; rw [of_int rx, of_str ry]; exact .inl ⟨rfl, by have := hk.here ok rp_bl q; simpa using this⟩)
      | (cases hb; rw [of_str rx, of_int ry]; exact .inl ⟨rfl, by have := hk.here ok rp_bl q; simpa using this⟩)
      | (cases hb; rw [of_bl rx, of_str ry]; exact .inl ⟨rfl, by have := hk.here ok rp_bl q; simpa using this⟩)
      | (cases hb; rw [of_str rx, of_bl ry]; exact .inl ⟨rfl, by have := hk.here ok rp_bl q; simpa using this⟩)
      | cases hb
  · obtain ⟨p, p', h1, h2, h3, h4, q⟩ := q
    exact .inr ⟨p, p', h1.dp ok rx, h2.dp ok ry, h3, h4, hk.here ok rp_bl q⟩
/-- x is None -/
def isNon : D → Option Bool
  | .non => some true
  | .raw _ => none
  | _ => some false
def oIsN (neg : Bool) : W2 := fun x y S Q => match y, isNon x with
  | .non, some b => Q (.bl (b != neg)) S
  | _, _ => False
def rIsA (neg : Bool) : R2 := fun x y H Q => y = .non ∧ Q (.bl (decide (x = .non) != neg)) H
theorem op_isA {X : Cx} : OpR X (compareOp .Is) (rIsA false) := fun pins s σ H x y v u Q I rx ry h => op_isN pins s σ H x y v u Q I rx ry ⟨h.1, by simpa using h.2⟩
theorem op_isnotA {X : Cx} : OpR X (compareOp .IsNot) (rIsA true) := fun pins s σ H x y v u Q I rx ry h => op_notN pins s σ H x y v u Q I rx ry ⟨h.1, by simpa using h.2⟩
theorem not_non : ∀ {d : D} {x : V}, Rp K S H d x → isNon d = some false → x ≠ .non
  | .non, _, _, h => by cases h
  | .raw _, _, _, h => by cases h
  | .bl _, _, r, _ => by rw [of_bl r]; exact fun e => by cases e
  | .int _, _, r, _ => by rw [of_int r]; exact fun e => by cases e
  | .str _, _, r, _ => by rw [of_str r]; exact fun e => by cases e
  | .ref _, _, r, _ => by rw [of_ref r]; exact fun e => by cases e
  | .lst _, _, r, _ => by obtain ⟨a, vs, rfl, _⟩ := of_lst r; exact fun e => by cases e
  | .tup _, _, r, _ => by obtain ⟨a, vs, rfl, _⟩ := of_tup r; exact fun e => by cases e
  | .dK _, _, r, _ => by unfold Rp at r; obtain ⟨a, _, _, rfl, _⟩ := r; exact fun e => by cases e
  | .dT _, _, r, _ => by unfold Rp at r; obtain ⟨a, _, _, rfl, _⟩ := r; exact fun e => by cases e
  | .dN _, _, r, _ => by unfold Rp at r; obtain ⟨a, _, _, _, _, rfl, _⟩ := r; exact fun e => by cases e
  | .tupz _, _, r, _ => by unfold Rp at r; obtain ⟨a, _, _, rfl, _⟩ := r; exact fun e => by cases e
  | .ins _ _, _, r, _ => by unfold Rp at r; obtain ⟨a, _, _, rfl, _⟩ := r; exact fun e => by cases e
  | .scr _, _, r, _ => by unfold Rp at r; obtain ⟨a, rfl, _⟩ := r; exact fun e => by cases e
  | .kt _, _, r, _ => by unfold Rp at r; obtain ⟨a, rfl, _⟩ := r; exact fun e => by cases e
  | .exc _ _, _, r, _ => by unfold Rp at r; obtain ⟨a, _, _, rfl, _⟩ := r; exact fun e => by cases e
theorem sr_isN {neg : Bool} : SR K (rIsA neg) (oIsN neg) := by
  intro x y d e S H Q k ok rx ry q hk
  unfold oIsN at q
  split at q
  · rename_i b hb
    refine ⟨of_non ry, ?_⟩
    have e : b = decide (x = .non) := by
      cases b with
      | true =>
        have : d = .non := by cases d <;> first | rfl | cases hb
        subst this
        rw [of_non rx]; rfl
      | false => rw [decide_eq_false (not_non rx hb)]
    rw [← e]
    exact hk.here ok rp_bl q
  · exact q.elim
end
end KR
set_option Elab.async false
set_option linter.all false
set_option maxRecDepth 100000
namespace KR
open PySem PySem.Spec PyProof.Rows L2
/-! ### dicts -/
section
variable {κ : Type} [DecidableEq κ]
def getD (kvs : List (κ × D)) (k : κ) : Option D := (kvs.find? fun kv => decide (kv.1 = k)).map (·.2)
def putD (kvs : List (κ × D)) (k : κ) (v : D) : List (κ × D) :=
  if (kvs.any fun kv => decide (kv.1 = k)) = true then kvs.map (fun kv => if kv.1 = k then (kv.1, v) else kv) else kvs ++ [(k, v)]
def delD (kvs : List (κ × D)) (k : κ) : List (κ × D) := kvs.filter fun kv => decide (kv.1 ≠ k)
/-- pairs beside pairs -/
def RA (K : Kx) (S : Store) (H : Hp) : List (κ × D) → List (κ × V) → Prop
  | [], r => r = []
  | (k, d) :: kvs, r => ∃ v r', r = (k, v) :: r' ∧ Rp K S H d v ∧ RA K S H kvs r'
variable {K : Kx} {S S' : Store} {H H' : Hp}
theorem RA.length : ∀ {kvs : List (κ × D)} {r : List (κ × V)}, RA K S H kvs r → kvs.length = r.length
  | [], _, h => by unfold RA at h; subst h; rfl
  | (k, d) :: kvs, _, h => by
    unfold RA at h
    obtain ⟨v, r', rfl, _, h2⟩ := h
    simp [RA.length h2]
theorem RA.keys : ∀ {kvs : List (κ × D)} {r : List (κ × V)}, RA K S H kvs r → r.map (·.1) = kvs.map (·.1)
  | [], _, h => by unfold RA at h; subst h; rfl
  | (k, d) :: kvs, _, h => by
    unfold RA at h
    obtain ⟨v, r', rfl, _, h2⟩ := h
    simp [RA.keys h2]
theorem RA.any {k : κ} : ∀ {kvs : List (κ × D)} {r : List (κ × V)}, RA K S H kvs r → (r.any fun kv => decide (kv.1 = k)) = kvs.any fun kv => decide (kv.1 = k)
  | [], _, h => by unfold RA at h; subst h; rfl
  | (k', d) :: kvs, _, h => by
    unfold RA at h
    obtain ⟨v, r', rfl, _, h2⟩ := h
    simp [RA.any h2]
theorem RA.get {k : κ} : ∀ {kvs : List (κ × D)} {r : List (κ × V)}, RA K S H kvs r → (∀ d, getD kvs k = some d → ∃ v, valV r k = some v ∧ Rp K S H d v) ∧ (getD kvs k = none → valV r k = none)
  | [], _, h => by unfold RA at h; subst h; exact ⟨fun d e => (nomatch e), fun _ => rfl⟩
  | (k', d) :: kvs, _, h => by
    unfold RA at h
    obtain ⟨v, r', rfl, h1, h2⟩ := h
    have ih := RA.get (k := k) h2
    unfold getD valV at *
    by_cases e : k' = k
    · simp only [List.find?_cons, e, decide_true, Option.map_some]
      exact ⟨fun d' q => (by cases q; exact ⟨v, rfl, h1⟩), fun q => (nomatch q)⟩
    · simp only [List.find?_cons, e, decide_false]
      exact ih
theorem RA.append : ∀ {kvs ls : List (κ × D)} {r q : List (κ × V)}, RA K S H kvs r → RA K S H ls q → RA K S H (kvs ++ ls) (r ++ q)
  | [], _, _, _, h, g => by unfold RA at h; subst h; exact g
  | (k, d) :: kvs, _, _, _, h, g => by
    unfold RA at h
    obtain ⟨v, r', rfl, h1, h2⟩ := h
    show RA K S H ((k, d) :: (kvs ++ _)) ((k, v) :: (r' ++ _))
    unfold RA
    exact ⟨v, _, rfl, h1, RA.append h2 g⟩
theorem RA.repl {k : κ} {d : D} {v : V} (hv : Rp K S H d v) : ∀ {kvs : List (κ × D)} {r : List (κ × V)}, RA K S H kvs r →
    RA K S H (kvs.map fun kv => if kv.1 = k then (kv.1, d) else kv) (r.map fun kv => if kv.1 = k then (kv.1, v) else kv)
  | [], _, h => by unfold RA at h; subst h; unfold RA; rfl
  | (k', e) :: kvs, _, h => by
    unfold RA at h
    obtain ⟨u, r', rfl, h1, h2⟩ := h
    have ih := RA.repl (k := k) hv h2
    simp only [List.map_cons]
    by_cases q : k' = k
    · simp only [q, if_true]
      unfold RA
      exact ⟨v, _, rfl, hv, ih⟩
    · simp only [q, if_false]
      unfold RA
      exact ⟨u, _, rfl, h1, ih⟩
theorem RA.put {k : κ} {d : D} {v : V} {kvs : List (κ × D)} {r : List (κ × V)} (h : RA K S H kvs r) (hv : Rp K S H d v) : RA K S H (putD kvs k d) (putK r k v) := by
  unfold putD putK
  rw [h.any]
  split
  · exact h.repl hv
  · exact h.append (by unfold RA; exact ⟨v, [], rfl, hv, by unfold RA; rfl⟩)
theorem RA.del {k : κ} : ∀ {kvs : List (κ × D)} {r : List (κ × V)}, RA K S H kvs r → RA K S H (delD kvs k) (dropK r k)
  | [], _, h => by unfold RA at h; subst h; unfold delD dropK RA; rfl
  | (k', e) :: kvs, _, h => by
    unfold RA at h
    obtain ⟨u, r', rfl, h1, h2⟩ := h
    have ih := RA.del (k := k) h2
    unfold delD dropK at *
    by_cases q : k' = k
    · simp only [List.filter_cons, q, ne_eq, not_true, decide_false, Bool.false_eq_true, if_false]
      exact ih
    · simp only [List.filter_cons, q, ne_eq, not_false_eq_true, decide_true, if_true]
      unfold RA
      exact ⟨u, _, rfl, h1, ih⟩
end
section
variable {K : Kx} {S S' : Store} {H H' : Hp}
theorem RpK_iff : ∀ {kvs : List (Key × D)} {r : List (Key × V)}, RpK K S H kvs r ↔ RA K S H kvs r
  | [], _ => by unfold RpK RA; exact Iff.rfl
  | (k, d) :: kvs, _ => by
    unfold RpK RA
    exact ⟨fun ⟨v, r', e, h1, h2⟩ => ⟨v, r', e, h1, RpK_iff.mp h2⟩, fun ⟨v, r', e, h1, h2⟩ => ⟨v, r', e, h1, RpK_iff.mpr h2⟩⟩
theorem RpT_iff : ∀ {kvs : List (List Key × D)} {r : List (List Key × V)}, RpT K S H kvs r ↔ RA K S H kvs r
  | [], _ => by unfold RpT RA; exact Iff.rfl
  | (k, d) :: kvs, _ => by
    unfold RpT RA
    exact ⟨fun ⟨v, r', e, h1, h2⟩ => ⟨v, r', e, h1, RpT_iff.mp h2⟩, fun ⟨v, r', e, h1, h2⟩ => ⟨v, r', e, h1, RpT_iff.mpr h2⟩⟩
theorem RpF_iff : ∀ {kvs : List (Str × D)} {r : List (Str × V)}, RpF K S H kvs r ↔ RA K S H kvs r
  | [], _ => by unfold RpF RA; exact Iff.rfl
  | (k, d) :: kvs, _ => by
    unfold RpF RA
    exact ⟨fun ⟨v, r', e, h1, h2⟩ => ⟨v, r', e, h1, RpF_iff.mp h2⟩, fun ⟨v, r', e, h1, h2⟩ => ⟨v, r', e, h1, RpF_iff.mpr h2⟩⟩
theorem kD_rp {k : Key} : Rp K S H (kD k) (kV k) := by
  cases k with
  | inl i => exact rp_int
  | inr x => exact rp_str
theorem of_kD {k : Key} {v : V} (h : Rp K S H (kD k) v) : v = kV k := by
  cases k with
  | inl i => exact of_int h
  | inr x => exact of_str h
theorem of_kDs : ∀ {ks : List Key} {vs : List V}, Rps K S H (ks.map kD) vs → vs = ks.map kV
  | [], _, h => h.nil_of
  | k :: ks, _, h => by
    obtain ⟨v, r, rfl, h1, h2⟩ := Rps.uncons h
    rw [of_kD h1, of_kDs h2]; rfl
/-- what a dict tells of a key: there (some d), or not -/
def DG (S : Store) (x y : D) (o : Option D) : Prop := (∃ kvs k, asK S x = some kvs ∧ y = kD k ∧ o = getD kvs k) ∨ ∃ kvs ks, asDT S x = some kvs ∧ y = .tup (ks.map kD) ∧ o = getD kvs ks
theorem DG_ok {x y : D} {o : Option D} {xv yv : V} (ok : Ok K S H) (rx : Rp K S H x xv) (ry : Rp K S H y yv) (h : DG S x y o) :
    ∃ a ov, xv = .ref a ∧ DGet H a yv ov ∧ (∀ d, o = some d → ∃ v, ov = some v ∧ Rp K S H d v) ∧ (o = none → ov = none) := by
  rcases h with ⟨kvs, k, e1, rfl, rfl⟩ | ⟨kvs, ks, e1, rfl, rfl⟩
  · obtain ⟨a, q, rfl, hh, r⟩ := asK_ok ok rx e1
    have g := RA.get (k := k) (RpK_iff.mp r)
    exact ⟨a, _, rfl, .inl ⟨q, k, hh, of_kD ry, rfl⟩, fun d e => g.1 d e, fun e => g.2 e⟩
  · obtain ⟨a, q, rfl, hh, r⟩ := asDT_ok ok rx e1
    obtain ⟨b, vs, rfl, _, hb, rb⟩ := of_tup ry
    have g := RA.get (k := ks) (RpT_iff.mp r)
    rw [of_kDs rb] at hb
    exact ⟨a, _, rfl, .inr ⟨q, ks, b, hh, rfl, hb, rfl⟩, fun d e => g.1 d e, fun e => g.2 e⟩
theorem DG.k {x : D} {kvs : List (Key × D)} {k : Key} {o : Option D} (h : asK S x = some kvs) (e : getD kvs k = o) : DG S x (kD k) o := .inl ⟨kvs, k, h, rfl, e.symm⟩
theorem DG.s {x : D} {kvs : List (Key × D)} {k : Str} {o : Option D} (h : asK S x = some kvs) (e : getD kvs (.inr k) = o) : DG S x (.str k) o := .inl ⟨kvs, .inr k, h, rfl, e.symm⟩
theorem DG.i {x : D} {kvs : List (Key × D)} {k : Int} {o : Option D} (h : asK S x = some kvs) (e : getD kvs (.inl k) = o) : DG S x (.int k) o := .inl ⟨kvs, .inl k, h, rfl, e.symm⟩
theorem DG.t {x : D} {kvs : List (List Key × D)} {ks : List Key} {o : Option D} (h : asDT S x = some kvs) (e : getD kvs ks = o) : DG S x (.tup (ks.map kD)) o := .inr ⟨kvs, ks, h, rfl, e.symm⟩

/-! ### x[i] -/
def oIx : W2 := fun x y S Q => (∃ xs i d, (asL S x = some xs ∨ asT x = some xs) ∧ y = .int i ∧ atI xs i = some d ∧ Q d S) ∨
  (∃ z i c, x = .str z ∧ y = .int i ∧ z.length ≤ sizeLine ∧ atI z.cps.toList i = some c ∧ Q (.str ⟨#[c]⟩) S) ∨ ∃ d, DG S x y (some d) ∧ Q d S
theorem ix_l {x : D} {S : Store} {Q : VQ} {xs : List D} {i : Int} {d : D} (h : asL S x = some xs) (e : atI xs i = some d) (q : Q d S) : oIx x (.int i) S Q := .inl ⟨xs, i, d, .inl h, rfl, e, q⟩
theorem ix_t {x : D} {S : Store} {Q : VQ} {xs : List D} {i : Int} {d : D} (h : asT x = some xs) (e : atI xs i = some d) (q : Q d S) : oIx x (.int i) S Q := .inl ⟨xs, i, d, .inr h, rfl, e, q⟩
theorem ix_s {z : Str} {S : Store} {Q : VQ} {i : Int} {c : Nat} (hz : z.length ≤ sizeLine) (e : atI z.cps.toList i = some c) (q : Q (.str ⟨#[c]⟩) S) : oIx (.str z) (.int i) S Q := .inr (.inl ⟨z, i, c, rfl, rfl, hz, e, q⟩)
theorem ix_d {x y d : D} {S : Store} {Q : VQ} (g : DG S x y (some d)) (q : Q d S) : oIx x y S Q := .inr (.inr ⟨d, g, q⟩)
def rIxD' : R2 := fun x y H Q => ∃ a v, x = .ref a ∧ DGet H a y (some v) ∧ Q v H
theorem ixR_dict {X : Cx} (hu : X.A.units + 1 < cLine) : IxR X rIxD' := by
  intro value slice pins s σ H x y v u Q I rx ry h hs
  obtain ⟨a, d, rfl, g, q⟩ := h
  obtain rfl : v = Value.ref a := rx
  exact tail_any (dict_typeIs I g) PySem.F.slot_dict_getitem.lookup (d_getItem hu I g ry fun w' s' I' r => ⟨d, H, I', r, q⟩) hs
def rIxA (K : PySem.W.Frag) : R2 := fun x y H Q => rIx K x y H Q ∨ rIxD' x y H Q
theorem ixR_all {X : Cx} (hu : X.A.units + 1 < cLine) : IxR X (rIxA X.K) := IxR.or ix_seq (ixR_dict hu)
theorem atI_rps {xs : List D} {vs : List V} {i : Int} {d : D} (r : Rps K S H xs vs) (h : atI xs i = some d) : ∃ v, atI vs i = some v ∧ Rp K S H d v := by
  unfold atI at h ⊢
  rw [← r.length]
  cases e : ixN xs.length i with
  | none => rw [e] at h; cases h
  | some j =>
    rw [e] at h
    exact r.get (i := j) h
theorem sr_ix : SR K (rIxA K.K) oIx := by
  intro x y d e S H Q k ok rx ry q hk
  rcases q with ⟨xs, i, f, hx, rfl, hf, q⟩ | ⟨z, i, c, rfl, rfl, hz, hc, q⟩ | ⟨f, g, q⟩
  · rcases hx with hx | hx
    · obtain ⟨a, vs, rfl, h1, r1⟩ := asL_ok ok rx hx
      obtain ⟨v, hv, rv⟩ := atI_rps r1 hf
      exact .inl (.inl ⟨a, vs, i, v, rfl, of_int ry, h1, hv, hk.here ok rv q⟩)
    · obtain ⟨a, vs, rfl, h1, r1⟩ := asT_ok rx hx
      obtain ⟨v, hv, rv⟩ := atI_rps r1 hf
      exact .inl (.inr (.inl ⟨a, vs, i, v, rfl, of_int ry, h1, hv, hk.here ok rv q⟩))
  · exact .inl (.inr (.inr ⟨z, i, c, of_str rx, of_int ry, hz, hc, hk.here ok rp_str q⟩))
  · obtain ⟨a, ov, rfl, g', h1, _⟩ := DG_ok ok rx ry g
    obtain ⟨v, rfl, rv⟩ := h1 f rfl
    exact .inr ⟨a, v, rfl, g', hk.here ok rv q⟩

/-! ### x in y -/
def flatD : D → Bool
  | .non => true
  | .bl _ => true
  | .int _ => true
  | .str _ => true
  | _ => false
def eqF : D → D → Bool
  | .non, .non => true
  | .bl a, .bl b => a == b
  | .bl a, .int b => (if a then 1 else 0) == b
  | .int a, .bl b => a == (if b then 1 else 0)
  | .int a, .int b => a == b
  | .str a, .str b => a == b
  | _, _ => false
def inF (x : D) (xs : List D) : Bool := xs.any fun y => eqF y x
theorem flat_rp {d : D} {v : V} (h : flatD d = true) (r : Rp K S H d v) : flatV v = true := by
  cases d <;> first | cases h | skip
  · rw [of_non r]; rfl
  · rw [of_bl r]; rfl
  · rw [of_int r]; rfl
  · rw [of_str r]; rfl
theorem eqF_rp {d e : D} {v u : V} (h1 : flatD d = true) (h2 : flatD e = true) (r1 : Rp K S H d v) (r2 : Rp K S H e u) : eqV v u = eqF d e := by
  cases d <;> first | cases h1 | skip
  all_goals (cases e <;> first | cases h2 | skip)
  all_goals first
    | rw [of_non r1, of_non r2] <;> rfl | rw [of_non r1, of_bl r2] <;> rfl | rw [of_non r1, of_int r2] <;> rfl | rw [of_non r1, of_str r2] <;> rfl
    | rw [of_bl r1, of_non r2] <;> rfl | rw [of_bl r1, of_bl r2] <;> rfl | rw [of_bl r1, of_int r2] <;> rfl | rw [of_bl r1, of_str r2] <;> rfl
    | rw [of_int r1, of_non r2] <;> rfl | rw [of_int r1, of_bl r2] <;> rfl | rw [of_int r1, of_int r2] <;> rfl | rw [of_int r1, of_str r2] <;> rfl
    | rw [of_str r1, of_non r2] <;> rfl | rw [of_str r1, of_bl r2] <;> rfl | rw [of_str r1, of_int r2] <;> rfl | rw [of_str r1, of_str r2] <;> rfl
theorem flats_rp : ∀ {ds : List D} {vs : List V}, ds.all flatD = true → Rps K S H ds vs → vs.all flatV = true
  | [], _, _, h => by rw [h.nil_of]; rfl
  | d :: ds, _, h, r => by
    obtain ⟨v, us, rfl, r1, r2⟩ := r.uncons
    rw [List.all_cons, Bool.and_eq_true] at h ⊢
    exact ⟨flat_rp h.1 r1, flats_rp h.2 r2⟩
theorem inF_rp {x : D} {xv : V} (hx : flatD x = true) (rx : Rp K S H x xv) : ∀ {ds : List D} {vs : List V}, ds.all flatD = true → Rps K S H ds vs → inV xv vs = inF x ds
  | [], _, _, h => by rw [h.nil_of]; rfl
  | d :: ds, _, h, r => by
    obtain ⟨v, us, rfl, r1, r2⟩ := r.uncons
    rw [List.all_cons, Bool.and_eq_true] at h
    have ih := inF_rp hx rx h.2 r2
    unfold inV inF at ih ⊢
    rw [List.any_cons, List.any_cons, ih, eqF_rp h.1 hx r1 rx]
def oIn (neg : Bool) : W2 := fun x y S Q => (∃ xs, (asL S y = some xs ∨ asT y = some xs) ∧ flatD x = true ∧ xs.all flatD = true ∧ Q (.bl (inF x xs != neg)) S) ∨
  (∃ c z, x = .str ⟨#[c]⟩ ∧ y = .str z ∧ Q (.bl (decide (c ∈ z.cps.toList) != neg)) S) ∨ (∃ o, DG S y x o ∧ Q (.bl (o.isSome != neg)) S) ∨
  ∃ d ds, Pv S x d ∧ Pv S y (.list ds) ∧ SeqAt.shaped d = true ∧ SeqAt.shaped (.list ds) = true ∧ Q (.bl ((ds.any fun z => PyData.eqv z d) != neg)) S
theorem in_l {neg : Bool} {x y : D} {S : Store} {Q : VQ} {xs : List D} (h : asL S y = some xs) (h1 : flatD x = true) (h2 : xs.all flatD = true) (q : Q (.bl (inF x xs != neg)) S) : oIn neg x y S Q := .inl ⟨xs, .inl h, h1, h2, q⟩
theorem in_t {neg : Bool} {x y : D} {S : Store} {Q : VQ} {xs : List D} (h : asT y = some xs) (h1 : flatD x = true) (h2 : xs.all flatD = true) (q : Q (.bl (inF x xs != neg)) S) : oIn neg x y S Q := .inl ⟨xs, .inr h, h1, h2, q⟩
theorem in_d {neg : Bool} {x y : D} {S : Store} {Q : VQ} {o : Option D} (g : DG S y x o) (q : Q (.bl (o.isSome != neg)) S) : oIn neg x y S Q := .inr (.inr (.inl ⟨o, g, q⟩))
def rInA (K : PySem.W.Frag) (neg : Bool) : R2 := fun x y H Q => (∃ p xs, y = .ref p ∧ (SqL K H p xs ∨ SqT K H p xs) ∧ flatV x = true ∧ xs.all flatV = true ∧ Q (.bl (inV x xs != neg)) H) ∨
  (∃ (c : Nat) (z : Str), x = .str ⟨#[c]⟩ ∧ y = .str z ∧ Q (.bl (decide (c ∈ z.cps.toList) != neg)) H) ∨ (∃ a o, y = .ref a ∧ DGet H a x o ∧ Q (.bl (o.isSome != neg)) H) ∨
  ∃ d ds, Dp K H x d ∧ Dp K H y (.list ds) ∧ SeqAt.shaped d = true ∧ SeqAt.shaped (.list ds) = true ∧ Q (.bl ((ds.any fun z => PyData.eqv z d) != neg)) H
theorem op_inA {X : Cx} (hu : X.A.units + 65 < cLine) : OpR X (compareOp .In) (rInA X.K false) := by
  intro pins s σ H x y v u Q I rx ry h
  rcases h with ⟨p, xs, h1, h2, h3, h4, q⟩ | ⟨c, z, h1, h2, q⟩ | ⟨a, o, rfl, g, q⟩ | ⟨d, ds, h1, h2, h3, h4, q⟩
  · exact op_in_seq pins s σ H x y v u Q I rx ry ⟨p, xs, h1, h2, h3, h4, by simpa using q⟩
  · exact op_in_sign pins s σ H x y v u Q I rx ry ⟨c, z, h1, h2, by simpa using q⟩
  · obtain rfl : u = Value.ref a := ry
    exact d_in (by omega) I g rx fun s' I' => ⟨.bl o.isSome, H, I', rfl, by simpa using q⟩
  · exact op_inD hu pins s σ H x y v u Q I rx ry ⟨d, ds, h1, h2, h3, h4, by simpa using q⟩
theorem op_notInA {X : Cx} (hu : X.A.units + 65 < cLine) : OpR X (compareOp .NotIn) (rInA X.K true) := by
  intro pins s σ H x y v u Q I rx ry h
  rcases h with ⟨p, xs, h1, h2, h3, h4, q⟩ | ⟨c, z, h1, h2, q⟩ | ⟨a, o, rfl, g, q⟩ | ⟨d, ds, h1, h2, h3, h4, q⟩
  · exact op_notIn_seq pins s σ H x y v u Q I rx ry ⟨p, xs, h1, h2, h3, h4, by simpa using q⟩
  · exact op_notIn_sign pins s σ H x y v u Q I rx ry ⟨c, z, h1, h2, by simpa using q⟩
  · obtain rfl : u = Value.ref a := ry
    exact d_notIn (by omega) I g rx fun s' I' => ⟨.bl (!o.isSome), H, I', rfl, by simpa using q⟩
  · exact op_notInD hu pins s σ H x y v u Q I rx ry ⟨d, ds, h1, h2, h3, h4, by simpa using q⟩
theorem sr_in {neg : Bool} : SR K (rInA K.K neg) (oIn neg) := by
  intro x y d e S H Q k ok rx ry q hk
  rcases q with ⟨xs, hx, h1, h2, q⟩ | ⟨c, z, rfl, rfl, q⟩ | ⟨o, g, q⟩ | ⟨p, ps, h1, h2, h3, h4, q⟩
  · rcases hx with hx | hx
    · obtain ⟨a, vs, rfl, g, r⟩ := asL_ok ok ry hx
      exact .inl ⟨a, vs, rfl, .inl g, flat_rp h1 rx, flats_rp h2 r, by rw [inF_rp h1 rx h2 r]; exact hk.here ok rp_bl q⟩
    · obtain ⟨a, vs, rfl, g, r⟩ := asT_ok ry hx
      exact .inl ⟨a, vs, rfl, .inr g, flat_rp h1 rx, flats_rp h2 r, by rw [inF_rp h1 rx h2 r]; exact hk.here ok rp_bl q⟩
  · exact .inr (.inl ⟨c, z, of_str rx, of_str ry, hk.here ok rp_bl q⟩)
  · obtain ⟨a, ov, rfl, g', h1, h2⟩ := DG_ok ok ry rx g
    have e : ov.isSome = o.isSome := by
      cases o with
      | none => rw [h2 rfl]; rfl
      | some d => obtain ⟨v, rfl, _⟩ := h1 d rfl; rfl
    exact .inr (.inr (.inl ⟨a, ov, rfl, g', by rw [e]; exact hk.here ok rp_bl q⟩))
  · exact .inr (.inr (.inr ⟨p, ps, h1.dp ok rx, h2.dp ok ry, h3, h4, hk.here ok rp_bl q⟩))
end
end KR
set_option Elab.async false
set_option linter.all false
set_option maxRecDepth 100000
namespace KR
open PySem PySem.Spec PyProof.Rows L2
section
variable {B : Bs} {X : Cx} {a b c e : Expr} {es : List Expr} {wa wb wc we : WE} {pos : Pos}
/-! ### subscripts -/
theorem ae_ix (hk : X.K = B.K.K) (hu : X.A.units + 1 < cLine) (ha : AE B X a wa) (hb : AE B X b wb) (hs : PlainIx b := by exact fun _ _ => rfl) : AE B X (.Subscript a b pos) (wOp oIx wa wb) :=
  PE.weak (pe_ix (ixR_all hu) ha hb hs) (by rw [hk]; exact tw_op sr_ix)
/-- a part of a slice -/
abbrev WO := AR → Store → (Option Int → Store → Prop) → Prop
def two (B : Bs) (w : WO) : TO := fun σ H K => ∃ ρ S Q, Rel B ρ S σ H ∧ w ρ S Q ∧ ∀ o H' S', Step S H S' H' → Ok B.K S' H' → Q o S' → K o H'
abbrev AO (B : Bs) (X : Cx) (e : Option Expr) (w : WO) : Prop := PO X e (two B w)
theorem PO.weak {e : Option Expr} {t t' : TO} (h : PO X e t) (i : ∀ σ H K, t' σ H K → t σ H K) : PO X e t' := ⟨fun pins s σ H Q I q => h.run pins s σ H Q I (i _ _ _ q)⟩
def wNoPart : WO := fun _ S Q => Q none S
def wPart (w : WE) : WO := fun ρ S Q => w ρ S fun d S1 => match d with
  | .int i => Q (some i) S1
  | _ => False
theorem ao_none : AO B X none wNoPart := PO.weak po_none fun σ H K ⟨ρ, S, Q, r, q, k⟩ => k none H S Step.refl r.ok q
theorem ao_some (h : AE B X e we) : AO B X (some e) (wPart we) := PO.weak (po_some h) fun σ H K ⟨ρ, S, Q, r, q, k⟩ =>
  ⟨ρ, S, _, r, q, fun v H1 d S1 st ok rd qd => by
    split at qd
    · exact ⟨_, of_int rd, k _ H1 S1 st ok qd⟩
    · exact qd.elim⟩
def cutD (xs : List D) (lo hi : Option Int) : List D := (xs.drop (HT.sIx xs.length 0 lo)).take (HT.sIx xs.length xs.length hi - HT.sIx xs.length 0 lo)
theorem cutD_rps {K : Kx} {S : Store} {H : Hp} {xs : List D} {vs : List V} (r : Rps K S H xs vs) (lo hi : Option Int) : Rps K S H (cutD xs lo hi) (cutV vs lo hi) := by
  unfold cutD cutV
  rw [← r.length]
  exact (r.drop _).take _
/-- x[lo:hi] -/
def oSl (m : Bool) (x : D) (lo hi : Option Int) (S : Store) (Q : VQ) : Prop := match x with
  | .str z => z.length ≤ sizeLine ∧ Q (.str (cutS z lo hi)) S
  | x => match asL S x with
    | some xs => newL m (cutD xs lo hi) S Q
    | none => False
def wSl (m : Bool) (w : WE) (wl wh : WO) : WE := fun ρ S Q => w ρ S fun x S1 => wl ρ S1 fun lo S2 => wh ρ S2 fun hi S3 => oSl m x lo hi S3 Q
def rSlAll (K : PySem.W.Frag) : V → Option Int → Option Int → Hp → VK → Prop := fun x lo hi H Q => rSlL K x lo hi H Q ∨ rSlS x lo hi H Q
theorem sl_all : SlR X (rSlAll X.K) := SlR.or sl_list sl_str
theorem ae_sl {m : Bool} {lo hi : Option Expr} {wl wh : WO} {p2 : Pos} (hk : X.K = B.K.K) (he : AE B X e we) (hl : AO B X lo wl) (hh : AO B X hi wh) : AE B X (.Subscript e (.Slice lo hi none p2) pos) (wSl m we wl wh) :=
  PE.weak (pe_slice sl_all he hl hh) fun σ H K ⟨ρ, S, Q, r, q, k⟩ => ⟨ρ, S, _, r, q, fun v H1 d S1 st1 ok1 rd1 q1 => ⟨ρ, S1, _, r.step st1 ok1, q1, fun l H2 S2 st2 ok2 q2 =>
    ⟨ρ, S2, _, (r.step st1 ok1).step st2 ok2, q2, fun u H3 S3 st3 ok3 q3 => by
      have rd := (rd1.step st2).step st3
      have kk : KK B.K S3 H3 Q K := fun v' H' d' S' st' ok' rd' q' => k v' H' d' S' (((st1.trans st2).trans st3).trans st') ok' rd' q'
      unfold oSl at q3
      split at q3
      · exact .inr ⟨_, of_str rd, q3.1, kk.here ok3 rp_str q3.2⟩
      · split at q3
        · rename_i xs hx
          obtain ⟨p, vs, rfl, h1, r1⟩ := asL_ok ok3 rd hx
          refine .inl ⟨p, vs, rfl, by rw [hk]; exact h1, newL_ok ok3 (cutD_rps r1 l u) (Nat.le_trans (cutV_length _ _ _) (sql_len ok3 h1)) q3 kk⟩
        · exact q3.elim⟩⟩⟩

/-! ### comparisons as values -/
def wChain (o o' : W2) (wa wb wc : WE) : WE := fun ρ S Q => wa ρ S fun x S1 => wb ρ S1 fun y S2 => o x y S2 fun z S3 => match z with
  | .bl true => wc ρ S3 fun z' S4 => o' y z' S4 Q
  | .bl false => Q (.bl false) S3
  | _ => False
theorem tw_chain {r r' : R2} {o o' : W2} (h : SR B.K r o) (h' : SR B.K r' o') : ∀ σ H K, tw B (wChain o o' wa wb wc) σ H K → tChain r r' (tw B wa) (tw B wb) (tw B wc) σ H K := fun σ H K ⟨ρ, S, Q, R, q, k⟩ =>
  ⟨ρ, S, _, R, q, fun v H1 d S1 st1 ok1 r1 q1 => ⟨ρ, S1, _, R.step st1 ok1, q1, fun u H2 e S2 st2 ok2 r2 q2 =>
    h v u d e S2 H2 _ _ ok2 (r1.step st2) r2 q2 fun y H3 f S3 st3 ok3 rf qf => by
      have R3 := ((R.step st1 ok1).step st2 ok2).step st3 ok3
      split at qf
      · refine ⟨true, of_bl rf, ?_⟩
        rw [if_pos rfl]
        exact ⟨ρ, S3, _, R3, qf, fun w H4 g S4 st4 ok4 rg qg => h' u w e g S4 H4 Q K ok4 ((r2.step st3).step st4) rg qg fun y' H' f' S' st ok rf' qf' =>
          k y' H' f' S' ((((st1.trans st2).trans st3).trans st4).trans st) ok rf' qf'⟩
      · refine ⟨false, of_bl rf, ?_⟩
        rw [if_neg (by decide)]
        exact k _ H3 _ S3 ((st1.trans st2).trans st3) ok3 rp_bl qf
      · exact qf.elim⟩⟩
theorem ae_chain {op op' : CmpOp} {r r' : R2} {o o' : W2} (ho : OpR X (compareOp op) r) (ho' : OpR X (compareOp op') r') (hs : SR B.K r o) (hs' : SR B.K r' o') (ha : AE B X a wa) (hb : AE B X b wb) (hc : AE B X c wc)
    (hm : lastMarks [op, op'] [b, c] = false := by with_unfolding_all rfl) : AE B X (.Compare a [op, op'] [b, c] pos) (wChain o o' wa wb wc) := PE.weak (pe_chain ho ho' ha hb hc hm) (tw_chain hs hs')

/-! ### tests -/
def wTest (w : WE) : WT := fun ρ S Q => w ρ S fun d S1 => match d with
  | .bl b => Q b S1
  | _ => False
theorem twt_val : ∀ σ H K, twt B (wTest we) σ H K → tB (tw B we) σ H K := fun σ H K ⟨ρ, S, Q, R, q, k⟩ => ⟨ρ, S, _, R, q, fun v H1 d S1 st ok rd qd => by
  split at qd
  · exact ⟨_, of_bl rd, k _ H1 S1 st ok qd⟩
  · exact qd.elim⟩
theorem twt_test {t : TE} (h : ∀ σ H K, tw B we σ H K → t σ H K) : ∀ σ H K, twt B (wTest we) σ H K → tTest t σ H K := fun σ H K ⟨ρ, S, Q, R, q, k⟩ => h _ _ _ ⟨ρ, S, _, R, q, fun v H1 d S1 st ok rd qd => by
  split at qd
  · exact ⟨_, of_bl rd, k _ H1 S1 st ok qd⟩
  · exact qd.elim⟩
/-- a value (a bool) as a test -/
theorem at_val (h : AE B X e we) (he : ∀ whole, isTrue e X.env whole = (do let v ← whole; standAt e.pos; holding [v] (truthy v)) := by intro _; rfl) : AT B X e (wTest we) := PT.weak (pt_val h he) twt_val
theorem at_cmp {op : CmpOp} {r : R2} {o : W2} (ho : OpR X (compareOp op) r) (hs : SR B.K r o) (ha : AE B X a wa) (hb : AE B X b wb) (hm : behindInMarks op b = false) : AT B X (.Compare a [op] [b] pos) (wTest (wOp o wa wb)) :=
  PT.weak (pt_cmpR ho ha hb hm) (twt_test (tw_op hs))
theorem at_chain {op op' : CmpOp} {r r' : R2} {o o' : W2} (ho : OpR X (compareOp op) r) (ho' : OpR X (compareOp op') r') (hs : SR B.K r o) (hs' : SR B.K r' o') (ha : AE B X a wa) (hb : AE B X b wb) (hc : AE B X c wc)
    (hm : lastMarks [op, op'] [b, c] = false := by with_unfolding_all rfl) : AT B X (.Compare a [op, op'] [b, c] pos) (wTest (wChain o o' wa wb wc)) := PT.weak (pt_chain ho ho' ha hb hc hm) (twt_test (tw_chain hs hs'))
abbrev AW (B : Bs) (X : Cx) (e : Expr) (w : WT) : Prop := PW X e (twt B w)
variable {ta tb : WT} {rest : List Expr}
def wtAnd (ta tb : WT) : WT := fun ρ S Q => ta ρ S fun b S1 => match b with
  | true => tb ρ S1 Q
  | false => Q false S1
def wtOr (ta tb : WT) : WT := fun ρ S Q => ta ρ S fun b S1 => match b with
  | true => Q true S1
  | false => tb ρ S1 Q
def wtNot (ta : WT) : WT := fun ρ S Q => ta ρ S fun b S1 => Q (!b) S1
theorem aw_and1 (ha : AT B X a ta) : AW B X (.BoolOp .And [a] pos) ta := pw_and1 ha
theorem aw_or1 (ha : AT B X a ta) : AW B X (.BoolOp .Or [a] pos) ta := pw_or1 ha
theorem aw_and (ha : AT B X a ta) (hb : AW B X (.BoolOp .And (b :: rest) pos) tb) : AW B X (.BoolOp .And (a :: b :: rest) pos) (wtAnd ta tb) :=
  PW.weak (pw_and ha hb) fun σ H K ⟨ρ, S, Q, R, q, k⟩ => ⟨ρ, S, _, R, q, fun c H1 S1 st ok q1 => by
    cases c with
    | true => rw [if_pos rfl]; exact ⟨ρ, S1, Q, R.step st ok, q1, fun c' H2 S2 st2 ok2 q2 => k c' H2 S2 (st.trans st2) ok2 q2⟩
    | false => rw [if_neg (by decide)]; exact k _ H1 S1 st ok q1⟩
theorem aw_or (ha : AT B X a ta) (hb : AW B X (.BoolOp .Or (b :: rest) pos) tb) : AW B X (.BoolOp .Or (a :: b :: rest) pos) (wtOr ta tb) :=
  PW.weak (pw_or ha hb) fun σ H K ⟨ρ, S, Q, R, q, k⟩ => ⟨ρ, S, _, R, q, fun c H1 S1 st ok q1 => by
    cases c with
    | true => rw [if_pos rfl]; exact k _ H1 S1 st ok q1
    | false => rw [if_neg (by decide)]; exact ⟨ρ, S1, Q, R.step st ok, q1, fun c' H2 S2 st2 ok2 q2 => k c' H2 S2 (st.trans st2) ok2 q2⟩⟩
theorem at_w (h : AW B X e ta) : AT B X e ta := PW.pt h
theorem at_not (ha : AT B X a ta) : AT B X (.UnaryOp .Not a pos) (wtNot ta) :=
  PT.weak (pt_not ha) fun σ H K ⟨ρ, S, Q, R, q, k⟩ => ⟨ρ, S, _, R, q, fun c H1 S1 st ok q1 => k _ H1 S1 st ok q1⟩
/-- .. as values -/
def wAndV (wa wb : WE) : WE := fun ρ S Q => wa ρ S fun d S1 => match d with
  | .bl true => wb ρ S1 Q
  | .bl false => Q (.bl false) S1
  | _ => False
def wOrV (wa wb : WE) : WE := fun ρ S Q => wa ρ S fun d S1 => match d with
  | .bl true => Q (.bl true) S1
  | .bl false => wb ρ S1 Q
  | _ => False
def wNotV (wa : WE) : WE := fun ρ S Q => wa ρ S fun d S1 => match d with
  | .bl b => Q (.bl (!b)) S1
  | _ => False
theorem ae_one {op} (h : AE B X a wa) : AE B X (.BoolOp op [a] pos) wa := pe_one h
theorem ae_and (ha : AE B X a wa) (hb : AE B X (.BoolOp .And (b :: rest) pos) wb) : AE B X (.BoolOp .And (a :: b :: rest) pos) (wAndV wa wb) :=
  PE.weak (pe_and ha hb) fun σ H K ⟨ρ, S, Q, R, q, k⟩ => ⟨ρ, S, _, R, q, fun v H1 d S1 st ok rd q1 => by
    split at q1
    · refine ⟨true, of_bl rd, ?_⟩
      rw [if_pos rfl]; exact ⟨ρ, S1, Q, R.step st ok, q1, fun c' H2 d2 S2 st2 ok2 r2 q2 => k c' H2 d2 S2 (st.trans st2) ok2 r2 q2⟩
    · refine ⟨false, of_bl rd, ?_⟩
      rw [if_neg (by decide)]; exact k _ H1 _ S1 st ok rp_bl q1
    · exact q1.elim⟩
theorem ae_or (ha : AE B X a wa) (hb : AE B X (.BoolOp .Or (b :: rest) pos) wb) : AE B X (.BoolOp .Or (a :: b :: rest) pos) (wOrV wa wb) :=
  PE.weak (pe_or ha hb) fun σ H K ⟨ρ, S, Q, R, q, k⟩ => ⟨ρ, S, _, R, q, fun v H1 d S1 st ok rd q1 => by
    split at q1
    · refine ⟨true, of_bl rd, ?_⟩
      rw [if_pos rfl]; exact k _ H1 _ S1 st ok rp_bl q1
    · refine ⟨false, of_bl rd, ?_⟩
      rw [if_neg (by decide)]; exact ⟨ρ, S1, Q, R.step st ok, q1, fun c' H2 d2 S2 st2 ok2 r2 q2 => k c' H2 d2 S2 (st.trans st2) ok2 r2 q2⟩
    · exact q1.elim⟩
theorem ae_not (ha : AE B X a wa) : AE B X (.UnaryOp .Not a pos) (wNotV wa) :=
  PE.weak (pe_not ha) fun σ H K ⟨ρ, S, Q, R, q, k⟩ => ⟨ρ, S, _, R, q, fun v H1 d S1 st ok rd q1 => by
    split at q1
    · exact ⟨_, of_bl rd, k _ H1 _ S1 st ok rp_bl q1⟩
    · exact q1.elim⟩
def wNeg (wa : WE) : WE := fun ρ S Q => wa ρ S fun d S1 => match d with
  | .int i => Q (.int (-i)) S1
  | _ => False
theorem ae_neg (ha : AE B X a wa) : AE B X (.UnaryOp .USub a pos) (wNeg wa) :=
  PE.weak (pe_un un_neg ha) fun σ H K ⟨ρ, S, Q, R, q, k⟩ => ⟨ρ, S, _, R, q, fun v H1 d S1 st ok rd q1 => by
    split at q1
    · exact ⟨_, of_int rd, k _ H1 _ S1 st ok rp_int q1⟩
    · exact q1.elim⟩
def wIf (t : WT) (wa wb : WE) : WE := fun ρ S Q => t ρ S fun b S1 => match b with
  | true => wa ρ S1 Q
  | false => wb ρ S1 Q
theorem ae_if (hc : AT B X c ta) (ha : AE B X a wa) (hb : AE B X b wb) : AE B X (.IfExp c a b pos) (wIf ta wa wb) :=
  PE.weak (pe_ifExp hc ha hb) fun σ H K ⟨ρ, S, Q, R, q, k⟩ => ⟨ρ, S, _, R, q, fun c H1 S1 st ok q1 => by
    cases c with
    | true => rw [if_pos rfl]; exact ⟨ρ, S1, Q, R.step st ok, q1, fun c' H2 d2 S2 st2 ok2 r2 q2 => k c' H2 d2 S2 (st.trans st2) ok2 r2 q2⟩
    | false => rw [if_neg (by decide)]; exact ⟨ρ, S1, Q, R.step st ok, q1, fun c' H2 d2 S2 st2 ok2 r2 q2 => k c' H2 d2 S2 (st.trans st2) ok2 r2 q2⟩⟩

/-! ### arguments, displays, calls -/
def waNil : WA := fun _ S Q => Q [] S
def waCons (w : WE) (r : WA) : WA := fun ρ S Q => w ρ S fun d S1 => r ρ S1 fun ds S2 => Q (d :: ds) S2
theorem aa_nil : AA B X [] waNil := PA.weak pa_nil fun σ H K ⟨ρ, S, Q, R, q, k⟩ => k [] H [] S Step.refl R.ok Rps.nil q
theorem aa_cons {wr : WA} (he : AE B X e we) (hr : AA B X es wr) (hs : starEach (e :: es) X.env = (false, eval e X.env) :: starEach es X.env := by rfl) : AA B X (e :: es) (waCons we wr) :=
  PA.weak (pa_cons he hr hs) fun σ H K ⟨ρ, S, Q, R, q, k⟩ => ⟨ρ, S, _, R, q, fun v H1 d S1 st ok rd q1 => ⟨ρ, S1, _, R.step st ok, q1, fun vs H2 ds S2 st2 ok2 r2 q2 =>
    k _ H2 _ S2 (st.trans st2) ok2 (Rps.cons (rd.step st2) r2) q2⟩⟩
def wLst (m : Bool) (wa : WA) : WE := fun ρ S Q => wa ρ S fun ds S1 => ds.length ≤ sizeLine ∧ newL m ds S1 Q
def wTup (wa : WA) : WE := fun ρ S Q => wa ρ S fun ds S1 => ds.length ≤ sizeLine ∧ Q (.tup ds) S1
theorem KK.back {K : Kx} {S S1 : Store} {H H1 : Hp} {Q : VQ} {k : VK} (h : KK K S H Q k) (st : Step S H S1 H1) : KK K S1 H1 Q k := fun v H' d S' st' ok rd q => h v H' d S' (st.trans st') ok rd q
variable {wr : WA}
theorem ae_lst {m : Bool} (h : AA B X es wr) : AE B X (.List es pos) (wLst m wr) := PE.weak (pe_lst h) fun σ H K ⟨ρ, S, Q, R, q, k⟩ => ⟨ρ, S, _, R, q, fun vs H1 ds S1 st ok rd q1 =>
  ⟨by rw [← rd.length]; exact q1.1, newL_ok ok rd (by rw [← rd.length]; exact q1.1) q1.2 (k.back st)⟩⟩
theorem ae_tup {x1} (h : AA B X es wr) : AE B X (.Tuple es x1 pos) (wTup wr) := PE.weak (pe_tup h) fun σ H K ⟨ρ, S, Q, R, q, k⟩ => ⟨ρ, S, _, R, q, fun vs H1 ds S1 st ok rd q1 =>
  ⟨by rw [← rd.length]; exact q1.1, newT_ok ok rd (by rw [← rd.length]; exact q1.1) q1.2 (k.back st)⟩⟩
abbrev WC := List D → Store → VQ → Prop
def SC (K : Kx) (r : List V → Hp → VK → Prop) (o : WC) : Prop := ∀ vs ds S H Q k, Ok K S H → Rps K S H ds vs → o ds S Q → KK K S H Q k → r vs H k
theorem SC.or {K : Kx} {r r' : List V → Hp → VK → Prop} {o o' : WC} (h : SC K r o) (h' : SC K r' o') : SC K (fun xs H Q => r xs H Q ∨ r' xs H Q) (fun xs S Q => o xs S Q ∨ o' xs S Q) := by
  intro vs ds S H Q k ok rx q hk
  rcases q with q | q
  · exact .inl (h vs ds S H Q k ok rx q hk)
  · exact .inr (h' vs ds S H Q k ok rx q hk)
def wCB (o : WC) (wa : WA) : WE := fun ρ S Q => wa ρ S fun ds S1 => o ds S1 Q
theorem tw_cb {r : List V → Hp → VK → Prop} {o : WC} (h : SC B.K r o) : ∀ σ H K, tw B (wCB o wr) σ H K → tCB r (twa B wr) σ H K := fun σ H K ⟨ρ, S, Q, R, q, k⟩ => ⟨ρ, S, _, R, q, fun vs H1 ds S1 st ok rd q1 =>
  h vs ds S1 H1 Q K ok rd q1 (k.back st)⟩
variable {x : Str} {p : Pos} {id T : String} {r : List V → Hp → VK → Prop} {o : WC}
theorem ae_callB (hc : CallR X (.builtin id) r) (hs : SC B.K r o) (hg : Gl X x) (hm : X.mg x = none) (hv : bootBuiltins x = some (.builtin id)) (ha : AA B X (e :: es) wr) (hn : x ≠ "__name__" := by decide) (hdb : (x == ("__debug__" : Str)) = false := by decide)
    (he : starEach (e :: es) X.env = (false, eval e X.env) :: starEach es X.env := by rfl) (hpl : (backTo pos (starEach es X.env)).any (·.1) = false := by rfl) : AE B X (.Call (.Name x p) (e :: es) [] pos) (wCB o wr) :=
  PE.weak (pe_callB hc hg hm hv ha hn hdb he hpl) (tw_cb hs)
theorem ae_callTy (hc : CallR X (.type T) r) (hs : SC B.K r o) (hg : Gl X x) (hm : X.mg x = none) (hv : bootBuiltins x = some (.type T)) (ha : AA B X (e :: es) wr) (hn : x ≠ "__name__" := by decide) (hdb : (x == ("__debug__" : Str)) = false := by decide)
    (he : starEach (e :: es) X.env = (false, eval e X.env) :: starEach es X.env := by rfl) (hpl : (backTo pos (starEach es X.env)).any (·.1) = false := by rfl) : AE B X (.Call (.Name x p) (e :: es) [] pos) (wCB o wr) :=
  PE.weak (pe_callTy hc hg hm hv ha hn hdb he hpl) (tw_cb hs)
/-! ### a module's constant, a built-in as a value -/
theorem ae_glob {v : V} {u : Value} {d : D} (hg : Gl X x) (hm : X.mg x = some u) (hr : RelV v u) (hd : ∀ S H, Rp B.K S H d v) (hdb : (x == ("__debug__" : Str)) = false := by decide) : AE B X (.Name x pos) (wC d) := ae_const (pe_glob hg hm hr hdb) hd
theorem ae_bltn {v : V} {u : Value} (hg : Gl X x) (hm : X.mg x = none) (hv : bootBuiltins x = some u) (hr : RelV v u) (hn : x ≠ "__name__" := by decide) (hdb : (x == ("__debug__" : Str)) = false := by decide) : AE B X (.Name x pos) (wC (.raw v)) :=
  ae_const (pe_bltn hg hm hv hr hn hdb) fun _ _ => by unfold Rp; rfl
end
end KR
set_option Elab.async false
set_option linter.all false
set_option maxRecDepth 100000
namespace KR
open PySem PySem.Spec PyProof.Rows L2
section
variable {K : Kx} {S S' : Store} {H H' : Hp}
theorem Rps.one {d : D} {vs : List V} (h : Rps K S H [d] vs) : ∃ v, vs = [v] ∧ Rp K S H d v := by
  obtain ⟨v, r, rfl, h1, h2⟩ := h.uncons
  rw [h2.nil_of]
  exact ⟨v, rfl, h1⟩
theorem Rps.two {d e : D} {vs : List V} (h : Rps K S H [d, e] vs) : ∃ v u, vs = [v, u] ∧ Rp K S H d v ∧ Rp K S H e u := by
  obtain ⟨v, r, rfl, h1, h2⟩ := h.uncons
  obtain ⟨u, rfl, h3⟩ := h2.one
  exact ⟨v, u, rfl, h1, h3⟩
/-- a list or a tuple -/
def asQ (S : Store) (x : D) (xs : List D) : Prop := asL S x = some xs ∨ asT x = some xs
theorem asQ_ok {d : D} {v : V} {xs : List D} (ok : Ok K S H) (r : Rp K S H d v) (h : asQ S d xs) : ∃ a vs, v = .ref a ∧ (SqL K.K H a vs ∨ SqT K.K H a vs) ∧ Rps K S H xs vs ∧ vs.length ≤ sizeLine := by
  rcases h with h | h
  · obtain ⟨a, vs, e, g, r1⟩ := asL_ok ok r h
    exact ⟨a, vs, e, .inl g, r1, sql_len ok g⟩
  · obtain ⟨a, vs, e, g, r1, hz⟩ := asT_ok2 ok r h
    exact ⟨a, vs, e, .inr g, r1, hz⟩

/-! ### len -/
def rLenAll (K : PySem.W.Frag) : List V → Hp → VK → Prop := fun xs H Q => (∃ p ys, xs = [.ref p] ∧ (SqL K H p ys ∨ SqT K H p ys) ∧ Q (.int ys.length) H) ∨ (∃ z, xs = [.str z] ∧ z.length ≤ sizeLine ∧ Q (.int z.length) H) ∨
  (∃ a kvs, xs = [.ref a] ∧ Rd H a (.dK kvs) ∧ Q (.int kvs.length) H) ∨ ∃ a kvs, xs = [.ref a] ∧ Rd H a (.dT kvs) ∧ Q (.int kvs.length) H
theorem cr_lenAll {X : Cx} : CallR X (.builtin "len") (rLenAll X.K) := by
  intro pins s σ H xs us Q I r h
  rcases h with h | h | ⟨a, kvs, rfl, e, q⟩ | ⟨a, kvs, rfl, e, q⟩
  · exact call_len_seq pins s σ H xs us Q I r h
  · exact call_len_str pins s σ H xs us Q I r h
  · obtain rfl := Vals.ref1 r
    exact d_len I e fun t s' I' => ⟨.int kvs.length, H, I', ⟨t, rfl⟩, q⟩
  · obtain rfl := Vals.ref1 r
    obtain ⟨z, hd, ys, rel, dd⟩ := dt_rd I.hok e
    have hl : kvs.length = ys.length := Paired.length rel
    have line := line63
    refine PySem.call_len_dictH hd dd (by omega) ⟨.int kvs.length, H, I.tok _, ⟨_, by rw [hl]⟩, q⟩
def oLen : WC := fun ds S Q => (∃ x xs, ds = [x] ∧ asQ S x xs ∧ Q (.int xs.length) S) ∨ (∃ z, ds = [.str z] ∧ z.length ≤ sizeLine ∧ Q (.int z.length) S) ∨
  (∃ x kvs, ds = [x] ∧ asK S x = some kvs ∧ Q (.int kvs.length) S) ∨ ∃ x kvs, ds = [x] ∧ asDT S x = some kvs ∧ Q (.int kvs.length) S
theorem len_l {x : D} {xs : List D} {S : Store} {Q : VQ} (h : asL S x = some xs) (q : Q (.int xs.length) S) : oLen [x] S Q := .inl ⟨x, xs, rfl, .inl h, q⟩
theorem len_t {x : D} {xs : List D} {S : Store} {Q : VQ} (h : asT x = some xs) (q : Q (.int xs.length) S) : oLen [x] S Q := .inl ⟨x, xs, rfl, .inr h, q⟩
theorem len_s {z : Str} {S : Store} {Q : VQ} (h : z.length ≤ sizeLine) (q : Q (.int z.length) S) : oLen [.str z] S Q := .inr (.inl ⟨z, rfl, h, q⟩)
theorem len_k {x : D} {xs : List (Key × D)} {S : Store} {Q : VQ} (h : asK S x = some xs) (q : Q (.int xs.length) S) : oLen [x] S Q := .inr (.inr (.inl ⟨x, xs, rfl, h, q⟩))
theorem len_dt {x : D} {xs : List (List Key × D)} {S : Store} {Q : VQ} (h : asDT S x = some xs) (q : Q (.int xs.length) S) : oLen [x] S Q := .inr (.inr (.inr ⟨x, xs, rfl, h, q⟩))
theorem sc_len : SC K (rLenAll K.K) oLen := by
  intro vs ds S H Q k ok r q hk
  rcases q with ⟨x, xs, rfl, hx, q⟩ | ⟨z, rfl, hz, q⟩ | ⟨x, kvs, rfl, hx, q⟩ | ⟨x, kvs, rfl, hx, q⟩
  · obtain ⟨v, rfl, rv⟩ := r.one
    obtain ⟨a, us, rfl, g, r1, _⟩ := asQ_ok ok rv hx
    exact .inl ⟨a, us, rfl, g, by rw [← r1.length]; exact hk.here ok rp_int q⟩
  · obtain ⟨v, rfl, rv⟩ := r.one
    rw [of_str rv]
    exact .inr (.inl ⟨z, rfl, hz, hk.here ok rp_int q⟩)
  · obtain ⟨v, rfl, rv⟩ := r.one
    obtain ⟨a, us, rfl, g, r1⟩ := asK_ok ok rv hx
    exact .inr (.inr (.inl ⟨a, us, rfl, g, by rw [← (RpK_iff.mp r1).length]; exact hk.here ok rp_int q⟩))
  · obtain ⟨v, rfl, rv⟩ := r.one
    obtain ⟨a, us, rfl, g, r1⟩ := asDT_ok ok rv hx
    exact .inr (.inr (.inr ⟨a, us, rfl, g, by rw [← (RpT_iff.mp r1).length]; exact hk.here ok rp_int q⟩))

/-! ### of ints -/
def o1I (g : Int → D) : WC := fun ds S Q => match ds with
  | [.int i] => Q (g i) S
  | _ => False
def o2I (g : Int → Int → D) : WC := fun ds S Q => match ds with
  | [.int i, .int j] => Q (g i j) S
  | _ => False
theorem sc_abs : SC K (fun xs H Q => ∃ i, xs = [.int i] ∧ Q (.int (if i < 0 then -i else i)) H) (o1I fun i => .int (if i < 0 then -i else i)) := by
  intro vs ds S H Q k ok r q hk
  unfold o1I at q
  split at q
  · obtain ⟨v, rfl, rv⟩ := r.one
    rw [of_int rv]
    exact ⟨_, rfl, hk.here ok rp_int q⟩
  · exact q.elim
theorem sc_2I {g : Int → Int → V} {g' : Int → Int → D} (hg : ∀ i j S H, Rp K S H (g' i j) (g i j)) : SC K (fun xs H Q => ∃ i j, xs = [.int i, .int j] ∧ Q (g i j) H) (o2I g') := by
  intro vs ds S H Q k ok r q hk
  unfold o2I at q
  split at q
  · obtain ⟨v, u, rfl, rv, ru⟩ := r.two
    rw [of_int rv, of_int ru]
    exact ⟨_, _, rfl, hk.here ok (hg _ _ _ _) q⟩
  · exact q.elim
abbrev oMax2 : WC := o2I fun i j => .int (if j > i then j else i)
abbrev oMin2 : WC := o2I fun i j => .int (if j < i then j else i)
theorem sc_max2 : SC K (fun xs H Q => ∃ i j, xs = [.int i, .int j] ∧ Q (.int (if j > i then j else i)) H) oMax2 := sc_2I fun _ _ _ _ => rp_int
theorem sc_min2 : SC K (fun xs H Q => ∃ i j, xs = [.int i, .int j] ∧ Q (.int (if j < i then j else i)) H) oMin2 := sc_2I fun _ _ _ _ => rp_int
def oStrI : WC := fun ds S Q => match ds with
  | [.int i] => i.natAbs.log2 < 1920 ∧ Q (.str (toString i)) S
  | _ => False
theorem sc_strI : SC K (fun xs H Q => ∃ i, xs = [.int i] ∧ i.natAbs.log2 < 1920 ∧ Q (.str (toString i)) H) oStrI := by
  intro vs ds S H Q k ok r q hk
  unfold oStrI at q
  split at q
  · obtain ⟨v, rfl, rv⟩ := r.one
    rw [of_int rv]
    exact ⟨_, rfl, q.1, hk.here ok rp_str q.2⟩
  · exact q.elim
/-! ### of lists -/
def oSum : WC := fun ds S Q => ∃ (x : D) (ns : List Int), ds = [x] ∧ asL S x = some (ns.map D.int) ∧ Q (.int ns.sum) S
theorem sc_sum : SC K (rSum K.K) oSum := by
  intro vs ds S H Q k ok r q hk
  obtain ⟨x, ns, rfl, hx, q⟩ := q
  obtain ⟨v, rfl, rv⟩ := r.one
  obtain ⟨a, us, rfl, g, r1⟩ := asL_ok ok rv hx
  rw [Rps.of_ints r1] at g
  exact ⟨a, ns, rfl, g, hk.here ok rp_int q⟩
/-- the greatest | the least of ints -/
def oMaxL : WC := fun ds S Q => ∃ (x : D) (ns : List Int), ds = [x] ∧ asL S x = some (ns.map D.int) ∧ 0 < ns.length ∧ ∀ m, m ∈ ns → (∀ y, y ∈ ns → y ≤ m) → Q (.int m) S
def oMinL : WC := fun ds S Q => ∃ (x : D) (ns : List Int), ds = [x] ∧ asL S x = some (ns.map D.int) ∧ 0 < ns.length ∧ ∀ m, m ∈ ns → (∀ y, y ∈ ns → m ≤ y) → Q (.int m) S
theorem sc_maxL : SC K (rMax K.K) oMaxL := by
  intro vs ds S H Q k ok r q hk
  obtain ⟨x, ns, rfl, hx, h0, q⟩ := q
  obtain ⟨v, rfl, rv⟩ := r.one
  obtain ⟨a, us, rfl, g, r1⟩ := asL_ok ok rv hx
  rw [Rps.of_ints r1] at g
  exact ⟨a, ns, rfl, g, h0, fun m h1 h2 => hk.here ok rp_int (q m h1 h2)⟩
theorem sc_minL : SC K (rMin K.K) oMinL := by
  intro vs ds S H Q k ok r q hk
  obtain ⟨x, ns, rfl, hx, h0, q⟩ := q
  obtain ⟨v, rfl, rv⟩ := r.one
  obtain ⟨a, us, rfl, g, r1⟩ := asL_ok ok rv hx
  rw [Rps.of_ints r1] at g
  exact ⟨a, ns, rfl, g, h0, fun m h1 h2 => hk.here ok rp_int (q m h1 h2)⟩
def oAny : WC := fun ds S Q => ∃ (x : D) (bs : List Bool), ds = [x] ∧ asL S x = some (bs.map D.bl) ∧ Q (.bl (bs.any id)) S
def oAll : WC := fun ds S Q => ∃ (x : D) (bs : List Bool), ds = [x] ∧ asL S x = some (bs.map D.bl) ∧ Q (.bl (bs.all id)) S
theorem sc_any : SC K (rAny K.K) oAny := by
  intro vs ds S H Q k ok r q hk
  obtain ⟨x, ns, rfl, hx, q⟩ := q
  obtain ⟨v, rfl, rv⟩ := r.one
  obtain ⟨a, us, rfl, g, r1⟩ := asL_ok ok rv hx
  rw [Rps.of_bls r1] at g
  exact ⟨a, ns, rfl, g, hk.here ok rp_bl q⟩
theorem sc_all : SC K (rAll K.K) oAll := by
  intro vs ds S H Q k ok r q hk
  obtain ⟨x, ns, rfl, hx, q⟩ := q
  obtain ⟨v, rfl, rv⟩ := r.one
  obtain ⟨a, us, rfl, g, r1⟩ := asL_ok ok rv hx
  rw [Rps.of_bls r1] at g
  exact ⟨a, ns, rfl, g, hk.here ok rp_bl q⟩
/-! ### new lists, tuples, dicts -/
/-- list(x) -/
def oList (m : Bool) : WC := fun ds S Q => (∃ x xs, ds = [x] ∧ asQ S x xs ∧ newL m xs S Q) ∨ ∃ x kvs, ds = [x] ∧ asK S x = some kvs ∧ newL m (kvs.map fun kv => kD kv.1) S Q
def rListAll (K : PySem.W.Frag) : List V → Hp → VK → Prop := fun xs H Q => (∃ p ys, xs = [.ref p] ∧ (SqL K H p ys ∨ SqT K H p ys) ∧ ∀ l, H l = none → Q (.ref l) (upd H l (.lst ys))) ∨
  ∃ (a : Addr) (kvs : List (Key × V)), xs = [.ref a] ∧ Rd H a (.dK kvs) ∧ kvs.length ≤ sizeLine ∧ ∀ p, H p = none → Q (.ref p) (upd H p (.lst (kvs.map fun kv => kV kv.1)))
theorem cr_listAll {X : Cx} (hc : X.calm = true) : CallR X (.type "list") (rListAll X.K) := by
  intro pins s σ H xs us Q I r h
  rcases h with h | ⟨a, kvs, e, h, _, q⟩
  · exact call_list_of pins s σ H xs us Q I r h
  · exact call_listD hc pins s σ H xs us Q I r ⟨a, kvs, e, h, q⟩
theorem rps_keys {κ : Type} [DecidableEq κ] {f : κ → D} {g : κ → V} (hf : ∀ k, Rp K S H (f k) (g k)) : ∀ {kvs : List (κ × D)} {r : List (κ × V)}, RA K S H kvs r → Rps K S H (kvs.map fun kv => f kv.1) (r.map fun kv => g kv.1)
  | [], _, h => by unfold RA at h; subst h; exact Rps.nil
  | (k, d) :: kvs, _, h => by
    unfold RA at h
    obtain ⟨v, r', rfl, _, h2⟩ := h
    exact Rps.cons (hf k) (rps_keys hf h2)
/-- list of a list or a tuple -/
def oListQ (m : Bool) : WC := fun ds S Q => ∃ x xs, ds = [x] ∧ asQ S x xs ∧ newL m xs S Q
theorem sc_listQ {m : Bool} : SC K (fun xs H Q => ∃ p ys, xs = [.ref p] ∧ (SqL K.K H p ys ∨ SqT K.K H p ys) ∧ ∀ l, H l = none → Q (.ref l) (upd H l (.lst ys))) (oListQ m) := by
  intro vs ds S H Q k ok r q hk
  obtain ⟨x, xs, rfl, hx, q⟩ := q
  obtain ⟨v, rfl, rv⟩ := r.one
  obtain ⟨a, us, rfl, g, r1, hz⟩ := asQ_ok ok rv hx
  exact ⟨a, us, rfl, g, newL_ok ok r1 hz q hk⟩
/-- tuple(x) -/
def oTuple : WC := fun ds S Q => ∃ x xs, ds = [x] ∧ ((asL S x = some xs ∧ Q (.tup xs) S) ∨ (asT x = some xs ∧ Q x S))
theorem sc_tuple : SC K (fun xs H Q => ∃ p ys, xs = [.ref p] ∧ ((SqL K.K H p ys ∧ ∀ l, H l = none → Q (.ref l) (upd H l (.tup ys))) ∨ (SqT K.K H p ys ∧ Q (.ref p) H))) oTuple := by
  intro vs ds S H Q k ok r q hk
  obtain ⟨x, xs, rfl, q⟩ := q
  obtain ⟨v, rfl, rv⟩ := r.one
  rcases q with ⟨hx, q⟩ | ⟨hx, q⟩
  · obtain ⟨a, us, rfl, g, r1⟩ := asL_ok ok rv hx
    exact ⟨a, us, rfl, .inl ⟨g, newT_ok ok r1 (sql_len ok g) q hk⟩⟩
  · obtain ⟨a, us, rfl, g, r1⟩ := asT_ok rv hx
    exact ⟨a, us, rfl, .inr ⟨g, hk.here ok rv q⟩⟩
/-- a new dict of int and text keys: as a cell -/
def newK (kvs : List (Key × D)) (S : Store) (Q : VQ) : Prop := ∀ p, S p = none → Q (.ref p) (sup S p (.dK kvs))
theorem newK_ok {kvs : List (Key × D)} {r : List (Key × V)} {Q : VQ} {k : VK} (ok : Ok K S H) (hr : RpK K S H kvs r) (q : newK kvs S Q) (h : KK K S H Q k) : ∀ p, H p = none → k (.ref p) (upd H p (.dK r)) := fun p hp => by
  have hs := ok.new hp
  have st := step_cell ok hp (o := .dK r) (c := .dK kvs)
  exact h _ _ _ _ st (ok_cell ok hp True.intro ⟨r, upd_same, RpK.step st hr⟩) rp_ref (q p hs)
def oDictD : WC := fun ds S Q => ∃ x kvs, ds = [x] ∧ asK S x = some kvs ∧ newK kvs S Q
theorem sc_dictD : SC K (fun xs H Q => ∃ (a : Addr) (kvs : List (Key × V)), xs = [.ref a] ∧ Rd H a (.dK kvs) ∧ ∀ p, H p = none → Q (.ref p) (upd H p (.dK kvs))) oDictD := by
  intro vs ds S H Q k ok r q hk
  obtain ⟨x, kvs, rfl, hx, q⟩ := q
  obtain ⟨v, rfl, rv⟩ := r.one
  obtain ⟨a, us, rfl, g, r1⟩ := asK_ok ok rv hx
  exact ⟨a, us, rfl, g, newK_ok ok r1 q hk⟩
/-! ### isinstance -/
/-- the type of a value -/
def tyD (S : Store) (x : D) (T : String) : Prop := (x = .non ∧ T = "NoneType") ∨ (∃ b, x = .bl b ∧ T = "bool") ∨ (∃ i, x = .int i ∧ T = "int") ∨ (∃ z, x = .str z ∧ T = "str") ∨
  (∃ xs, asX S x = some xs ∧ T = "list") ∨ (∃ xs, x = .tup xs ∧ T = "tuple") ∨ ∃ kvs, asK S x = some kvs ∧ T = "dict"
theorem tyD_ok {x : D} {v : V} {T : String} (ok : Ok K S H) (r : Rp K S H x v) (h : tyD S x T) : TyX K.K H v (.type T) := by
  rcases h with ⟨rfl, rfl⟩ | ⟨b, rfl, rfl⟩ | ⟨i, rfl, rfl⟩ | ⟨z, rfl, rfl⟩ | ⟨xs, hx, rfl⟩ | ⟨xs, rfl, rfl⟩ | ⟨kvs, hx, rfl⟩
  · rw [of_non r]; exact .base .non
  · rw [of_bl r]; exact .base (.bl b)
  · rw [of_int r]; exact .base (.int i)
  · rw [of_str r]; exact .base (.str z)
  · obtain ⟨a, vs, rfl, hh, _⟩ := asX_ok ok r hx
    exact .base (.lst hh)
  · obtain ⟨a, vs, rfl, _, hh, _⟩ := of_tup r
    exact .base (.tup hh)
  · obtain ⟨a, q, rfl, hh, _⟩ := asK_ok ok r hx
    rcases hh with hh | ⟨o, hh⟩
    · exact .base (.dK hh)
    · exact .fDict hh
/-- whether a built-in type is another one's kind -/
def subTy (T U : String) : Bool := T == U || (T == "bool" && U == "int")
def oIsi (K : Kx) : WC := fun ds S Q => ∃ x T U b, ds = [x, .raw (.ty U)] ∧ tyD S x T ∧ PySem.W.kitOne K.K (.type T) (.type U) = some b ∧ Q (.bl b) S
theorem sc_isi : SC K (rIsi K.K) (oIsi K) := by
  intro vs ds S H Q k ok r q hk
  obtain ⟨x, T, U, b, rfl, ht, hkit, q⟩ := q
  obtain ⟨v, u, rfl, rv, ru⟩ := r.two
  have e : u = .ty U := by unfold Rp at ru; exact ru
  subst e
  exact ⟨v, _, _, _, b, rfl, .ty U, tyD_ok ok rv ht, hkit, hk.here ok rp_bl q⟩
end
end KR
set_option Elab.async false
set_option linter.all false
set_option maxRecDepth 100000
namespace KR
open PySem PySem.Spec PyProof.Rows L2
section
variable {K : Kx} {S S' : Store} {H H' : Hp}
/-- a method of a built-in type by values: the receiver, the arguments -/
abbrev WM := D → List D → Store → VQ → Prop
def SM (K : Kx) (r : V → List V → Hp → VK → Prop) (o : WM) : Prop := ∀ x vs d ds S H Q k, Ok K S H → Rp K S H d x → Rps K S H ds vs → o d ds S Q → KK K S H Q k → r x vs H k
theorem SM.or {r r' : V → List V → Hp → VK → Prop} {o o' : WM} (h : SM K r o) (h' : SM K r' o') : SM K (fun x xs H Q => r x xs H Q ∨ r' x xs H Q) (fun x xs S Q => o x xs S Q ∨ o' x xs S Q) := by
  intro x vs d ds S H Q k ok rx rs q hk
  rcases q with q | q
  · exact .inl (h x vs d ds S H Q k ok rx rs q hk)
  · exact .inr (h' x vs d ds S H Q k ok rx rs q hk)
/-- what the receiver is -/
def rcv (T : String) (x : D) (S : Store) : Prop := (T = "list" ∧ ∃ xs, asL S x = some xs) ∨ (T = "str" ∧ ∃ z, x = .str z) ∨ (T = "dict" ∧ ∃ a, x = .ref a ∧ ((∃ kvs, S a = some (.dK kvs)) ∨ ∃ kvs, S a = some (.dT kvs)))
theorem rcv_ok {T : String} {x : D} {v : V} (ok : Ok K S H) (r : Rp K S H x v) (h : rcv T x S) : tyV K.K T v H := by
  rcases h with ⟨rfl, xs, h⟩ | ⟨rfl, z, rfl⟩ | ⟨rfl, a, rfl, h⟩
  · obtain ⟨a, vs, rfl, g, _⟩ := asL_ok ok r h
    exact .inl ⟨rfl, vs, g⟩
  · rw [of_str r]; rfl
  · rw [of_ref r]
    rcases h with ⟨kvs, h⟩ | ⟨kvs, h⟩
    · obtain ⟨q, hh, _⟩ := ok.c a _ h
      exact .inr (.inr (.inl ⟨rfl, .inl ⟨q, hh⟩⟩))
    · obtain ⟨q, hh, _⟩ := ok.c a _ h
      exact .inr (.inr (.inl ⟨rfl, .inr ⟨q, hh⟩⟩))
theorem rcv_l {x : D} {xs : List D} (h : asL S x = some xs) : rcv "list" x S := .inl ⟨rfl, xs, h⟩
theorem rcv_s {z : Str} : rcv "str" (.str z) S := .inr (.inl ⟨rfl, z, rfl⟩)
theorem rcv_k {a : Addr} {kvs : List (Key × D)} (h : S a = some (.dK kvs)) : rcv "dict" (.ref a) S := .inr (.inr ⟨rfl, a, rfl, .inl ⟨kvs, h⟩⟩)
def wBM (T : String) (o : WM) (wo : WE) (wa : WA) : WE := fun ρ S Q => wo ρ S fun x S1 => rcv T x S1 ∧ wa ρ S1 fun ds S2 => o x ds S2 Q
end
section
variable {B : Bs} {X : Cx} {o e : Expr} {es : List Expr} {wo we : WE} {wa : WA} {name : Str} {apos cpos : Pos} {T id : String} {r : V → List V → Hp → VK → Prop} {m : WM}
theorem ae_bm0 (pa : PlainAttrs T) (slot : Slot T name id) (hty : typeOf (.builtin id) = pure (.type "method_descriptor")) (hm : MtR X id r) (hs : SM B.K r m) (hk : X.K = B.K.K) (ho : AE B X o wo)
    (hbase : attributeBase o name X.env (eval o X.env) = eval o X.env := by rfl) (hline : (apos.endLine == cpos.line) = true := by rfl) : AE B X (.Call (.Attribute o name apos) [] [] cpos) (wBM T m wo waNil) :=
  PE.weak (pe_bm0 pa slot hty hm ho hbase hline) fun σ H K ⟨ρ, S, Q, R, q, k⟩ => ⟨ρ, S, _, R, q, fun v H1 d S1 st ok rd q1 =>
    ⟨by rw [hk]; exact rcv_ok ok rd q1.1, hs v [] d [] S1 H1 Q K ok rd Rps.nil q1.2 (k.back st)⟩⟩
theorem ae_bm (pa : PlainAttrs T) (slot : Slot T name id) (hty : typeOf (.builtin id) = pure (.type "method_descriptor")) (hm : MtR X id r) (hs : SM B.K r m) (hk : X.K = B.K.K) (ho : AE B X o wo) (ha : AA B X (e :: es) wa)
    (hbase : attributeBase o name X.env (eval o X.env) = eval o X.env := by rfl)
    (hfew : ((backTo cpos (starEach (e :: es) X.env)).all (fun x => !x.1) && (backToKw cpos (keywordEach [] X.env)).all (fun x => x.1.isSome)
      && decide ((e :: es).length + ([] : List Keyword).length + (if ([] : List Keyword).isEmpty then 0 else 1) < 30)) = true := by rfl)
    (hline : (apos.endLine == cpos.line) = true := by rfl) (hst : starEach (e :: es) X.env = (false, eval e X.env) :: starEach es X.env := by rfl) (hplain : (backTo cpos (starEach es X.env)).any (·.1) = false := by rfl) :
    AE B X (.Call (.Attribute o name apos) (e :: es) [] cpos) (wBM T m wo wa) :=
  PE.weak (pe_bm pa slot hty hm ho ha hbase hfew hline hst hplain) fun σ H K ⟨ρ, S, Q, R, q, k⟩ => ⟨ρ, S, _, R, q, fun v H1 d S1 st ok rd q1 =>
    ⟨by rw [hk]; exact rcv_ok ok rd q1.1, ⟨ρ, S1, _, R.step st ok, q1.2, fun vs H2 ds S2 st2 ok2 r2 q2 => hs v vs d ds S2 H2 Q K ok2 (rd.step st2) r2 q2 ((k.back st).back st2)⟩⟩⟩
end
section
variable {K : Kx} {S S' : Store} {H H' : Hp}
/-! ### lists -/
/-- a list cell changed -/
theorem put_lst {a : Addr} {xs ys : List D} {vs us : List V} {Q : VQ} {k : VK} {d : D} {v : V} (ok : Ok K S H) (h : S a = some (.lst xs)) (r : Rps K S H ys us) (hz : us.length ≤ sizeLine) (rv : Rp K S H d v)
    (q : Q d (sup S a (.lst ys))) (hk : KK K S H Q k) : k v (upd H a (.lst us)) := by
  have st := step_put (o := .lst us) (c := .lst ys) (H := H) h
  exact hk _ _ _ _ st (ok_put ok h hz ⟨us, upd_same, Rps.step st r⟩) (rv.step st) q
def mAppend : WM := fun x ds S Q => ∃ a xs y, x = .ref a ∧ ds = [y] ∧ S a = some (.lst xs) ∧ xs.length < sizeLine ∧ Q .non (sup S a (.lst (xs ++ [y])))
theorem sm_append : SM K rAppend mAppend := by
  intro x vs d ds S H Q k ok rx rs q hk
  obtain ⟨a, xs, y, rfl, rfl, h, hz, q⟩ := q
  obtain ⟨us, hh, r⟩ := ok.c a _ h
  obtain ⟨v, rfl, rv⟩ := rs.one
  refine ⟨a, us, v, of_ref rx, rfl, hh, by rw [← r.length]; exact hz, put_lst (vs := us) ok h (r.append (Rps.cons rv Rps.nil)) ?_ rp_non q hk⟩
  rw [List.length_append, List.length_singleton, ← r.length]
  exact hz
def mExtend : WM := fun x ds S Q => ∃ a xs y ys, x = .ref a ∧ ds = [y] ∧ S a = some (.lst xs) ∧ asX S y = some ys ∧ xs.length + ys.length ≤ sizeLine ∧ Q .non (sup S a (.lst (xs ++ ys)))
theorem sm_extend : SM K rExtend mExtend := by
  intro x vs d ds S H Q k ok rx rs q hk
  obtain ⟨a, xs, y, ys, rfl, rfl, h, hy, hz, q⟩ := q
  obtain ⟨us, hh, r⟩ := ok.c a _ h
  obtain ⟨v, rfl, rv⟩ := rs.one
  obtain ⟨b, ws, rfl, hb, rb⟩ := asX_ok ok rv hy
  have hl : us.length + ws.length ≤ sizeLine := by rw [← r.length, ← rb.length]; exact hz
  exact ⟨a, b, us, ws, of_ref rx, rfl, hh, hb, hl, put_lst (vs := us) ok h (r.append rb) (by rw [List.length_append]; exact hl) rp_non q hk⟩
/-- l.pop() -/
def mPop : WM := fun x ds S Q => ∃ a xs y, x = .ref a ∧ ds = [] ∧ S a = some (.lst (xs ++ [y])) ∧ Q y (sup S a (.lst xs))
theorem sm_pop : SM K rPop mPop := by
  intro x vs d ds S H Q k ok rx rs q hk
  obtain ⟨a, xs, y, rfl, rfl, h, q⟩ := q
  obtain ⟨us, hh, r⟩ := ok.c a _ h
  obtain ⟨ws, v, rfl, r1, r2⟩ := r.last
  have hz := ok.z a _ (.inl (.inl hh))
  rw [List.length_append, List.length_singleton] at hz
  refine ⟨a, _, v, of_ref rx, rs.nil_of, hh, by simp, ?_⟩
  rw [List.dropLast_concat]
  exact put_lst (vs := ws) ok h r1 (by omega) r2 q hk
/-- l.pop(i), 0 ≤ i -/
def mPopAt : WM := fun x ds S Q => ∃ a xs i y, x = .ref a ∧ ds = [.int ((i : Nat) : Int)] ∧ S a = some (.lst xs) ∧ i < 2 ^ 63 ∧ xs[i]? = some y ∧ Q y (sup S a (.lst (xs.eraseIdx i)))
theorem sm_popAt : SM K rPopAt mPopAt := by
  intro x vs d ds S H Q k ok rx rs q hk
  obtain ⟨a, xs, i, y, rfl, rfl, h, hi, hy, q⟩ := q
  obtain ⟨us, hh, r⟩ := ok.c a _ h
  obtain ⟨v, rfl, rv⟩ := rs.one
  rw [of_int rv]
  obtain ⟨w, hw, rw'⟩ := r.get hy
  have hl := (List.getElem?_eq_some_iff.mp hw).1
  have hz := ok.z a _ (.inl (.inl hh))
  refine ⟨a, us, (i : Int), i, w, of_ref rx, rfl, hh, by omega, by omega, ?_, hw, put_lst (vs := us) ok h (r.eraseIdx i) (Nat.le_trans (len_erase _ _) hz) rw' q hk⟩
  exact (ixN_seq (n := us.length) (i := (i : Int)) (j := i) (by unfold ixN; rw [if_pos (by omega), if_pos (by omega)]; simp)).1
/-- l.insert(i, y), 0 ≤ i -/
def mInsert : WM := fun x ds S Q => ∃ a xs i y, x = .ref a ∧ ds = [.int ((i : Nat) : Int), y] ∧ S a = some (.lst xs) ∧ xs.length < sizeLine ∧ i < 2 ^ 63 ∧ Q .non (sup S a (.lst (xs.take (min i xs.length) ++ y :: xs.drop (min i xs.length))))
/-- l.count(x), t.count(x) of flat items -/
def rCntF (K : PySem.W.Frag) : V → List V → Hp → VK → Prop := fun x xs H Q => ∃ (p : Addr) (ys : List V) (y : V), x = .ref p ∧ xs = [y] ∧ SqL K H p ys ∧ flatV y = true ∧ ys.all flatV = true ∧ Q (.int (ys.countP fun z => eqV z y : Nat)) H
theorem count_eqU {x : V} : ∀ {xs : List V} {us : List Value}, Vals xs us → xs.all flatV = true → us.countP (eqU x) = xs.countP fun y => eqV y x
  | _, _, .nil, _ => rfl
  | y :: xs, u :: us, .cons r t, f => by
    rw [List.all_cons, Bool.and_eq_true] at f
    rw [List.countP_cons, List.countP_cons, eqU_of r f.1, count_eqU t f.2]
theorem mt_cntF {X : Cx} : MtR X "list.count" (rCntF X.K) := by
  intro pins s σ H x xs v us Q I rx rxs h
  obtain ⟨p, ys, y, rfl, rfl, hs, fy, fs, q⟩ := h
  cases rx
  obtain ⟨u, rfl, ru⟩ := rxs.one
  obtain ⟨its, rv, ⟨⟨cls, dd, data, sl⟩, n, ho, hc, hdn, hd⟩, hlen⟩ := I.list hs
  simp only at hc hd
  subst hc hd
  refine call_meets PySem.F.slot_list_count ⟨_, ho, rfl⟩ PySem.F.entry_list_count (PySem.F.args_list_count_2 _ _)
    (SeqAt.list_countAt p its.toArray n dd sl u (eqU y)) ⟨ho, fun z hz => mem_eqAt ru fy rv fs z (by simpa using hz), ?_⟩
  have e := count_eqU (x := y) rv fs
  exact ⟨.int (ys.countP fun z => eqV z y : Nat), H, I.tok _, ⟨s.toks, by rw [← e]⟩, q⟩
theorem countF_rp {x : D} {xv : V} (hx : flatD x = true) (rx : Rp K S H x xv) : ∀ {ds : List D} {vs : List V}, ds.all flatD = true → Rps K S H ds vs → (vs.countP fun z => eqV z xv) = ds.countP fun z => eqF z x
  | [], _, _, h => by rw [h.nil_of]; rfl
  | d :: ds, _, h, r => by
    obtain ⟨v, us, rfl, r1, r2⟩ := r.uncons
    rw [List.all_cons, Bool.and_eq_true] at h
    rw [List.countP_cons, List.countP_cons, eqF_rp h.1 hx r1 rx, countF_rp hx rx h.2 r2]
def mCount : WM := fun x ds S Q => ∃ y xs, ds = [y] ∧ asL S x = some xs ∧ flatD y = true ∧ xs.all flatD = true ∧ Q (.int (xs.countP fun z => eqF z y : Nat)) S
theorem sm_count : SM K (rCntF K.K) mCount := by
  intro x vs d ds S H Q k ok rx rs q hk
  obtain ⟨y, xs, rfl, hx, fy, fs, q⟩ := q
  obtain ⟨v, rfl, rv⟩ := rs.one
  obtain ⟨a, us, rfl, g, r⟩ := asL_ok ok rx hx
  refine ⟨a, us, v, rfl, rfl, g, flat_rp fy rv, flats_rp fs r, ?_⟩
  rw [countF_rp fy rv fs r]
  exact hk.here ok rp_int q
/-- l.index(x) of flat items: the first place -/
def mIndex : WM := fun x ds S Q => ∃ y xs j z, ds = [y] ∧ asL S x = some xs ∧ flatD y = true ∧ xs.all flatD = true ∧ xs[j]? = some z ∧ eqF z y = true ∧ (∀ m z', m < j → xs[m]? = some z' → eqF z' y = false) ∧ Q (.int (j : Nat)) S

/-! ### texts -/
def m0S (C : Str → Prop) (g : Str → D) : WM := fun x ds S Q => ∃ a, x = .str a ∧ ds = [] ∧ C a ∧ Q (g a) S
theorem sm_0S {C : Str → Prop} {g : Str → V} {g' : Str → D} (hg : ∀ a S H, Rp K S H (g' a) (g a)) : SM K (fun x xs H Q => ∃ a, x = .str a ∧ xs = [] ∧ C a ∧ Q (g a) H) (m0S C g') := by
  intro x vs d ds S H Q k ok rx rs q hk
  obtain ⟨a, rfl, rfl, c, q⟩ := q
  exact ⟨a, of_str rx, rs.nil_of, c, hk.here ok (hg _ _ _) q⟩
abbrev mIsdigit : WM := m0S (fun _ => True) fun a => .bl (Txt.isdigit a)
abbrev mIsalpha : WM := m0S (fun _ => True) fun a => .bl (Txt.isalpha a)
theorem sm_isdigit : SM K (fun x xs H Q => ∃ a, x = .str a ∧ xs = [] ∧ True ∧ Q (.bl (Txt.isdigit a)) H) mIsdigit := sm_0S (C := fun _ => True) (g := fun a => .bl (Txt.isdigit a)) fun _ _ _ => rp_bl
theorem sm_isalpha : SM K (fun x xs H Q => ∃ a, x = .str a ∧ xs = [] ∧ True ∧ Q (.bl (Txt.isalpha a)) H) mIsalpha := sm_0S (C := fun _ => True) (g := fun a => .bl (Txt.isalpha a)) fun _ _ _ => rp_bl
def mJoin : WM := fun x ds S Q => ∃ (a : Str) (p : D) (ys : List Str), x = .str a ∧ ds = [p] ∧ asQ S p (ys.map D.str) ∧ (ys.map (·.length)).sum + ys.length * a.length ≤ 16777216 ∧ Q (.str (Txt.join a ys)) S
theorem sm_join : SM K (fun x xs H Q => ∃ a p, ∃ ys : List Str, x = .str a ∧ xs = [.ref p] ∧ (SqL K.K H p (ys.map V.str) ∨ SqT K.K H p (ys.map V.str)) ∧
    (ys.map (·.length)).sum + ys.length * a.length ≤ 16777216 ∧ Q (.str (Txt.join a ys)) H) mJoin := by
  intro x vs d ds S H Q k ok rx rs q hk
  obtain ⟨a, p, ys, rfl, rfl, hp, hz, q⟩ := q
  obtain ⟨v, rfl, rv⟩ := rs.one
  obtain ⟨b, us, rfl, g, r, _⟩ := asQ_ok ok rv hp
  rw [Rps.of_strs r] at g
  exact ⟨a, b, ys, of_str rx, rfl, g, hz, hk.here ok rp_str q⟩
end
/-! ### dicts -/
section
variable {B : Bs} {X : Cx} {o e f : Expr} {wo we wf : WE} {apos cpos : Pos}
/-- d.get(k, x) -/
def wDGet2 (wo we wf : WE) : WE := fun ρ S Q => wo ρ S fun x S1 => (∃ y o, DG S1 x y o) ∧ we ρ S1 fun y S2 => wf ρ S2 fun z S3 => ∃ o, DG S3 x y o ∧ Q (o.getD z) S3
theorem DG.isD {K : Kx} {S : Store} {H : Hp} {x : D} {v : V} (ok : Ok K S H) (r : Rp K S H x v) (h : ∃ y o, DG S x y o) : ∃ a, v = .ref a ∧ IsD H a := by
  obtain ⟨y, o, h⟩ := h
  rcases h with ⟨kvs, k, e1, _, _⟩ | ⟨kvs, ks, e1, _, _⟩
  · obtain ⟨a, q, rfl, hh, _⟩ := asK_ok ok r e1
    exact ⟨a, rfl, .inl ⟨q, hh⟩⟩
  · obtain ⟨a, q, rfl, hh, _⟩ := asDT_ok ok r e1
    exact ⟨a, rfl, .inr ⟨q, hh⟩⟩
theorem ae_dget2 (hu : X.A.units + 1 < cLine) (ho : AE B X o wo) (he : AE B X e we) (hf : AE B X f wf) (m : M2 X o "get" apos e f cpos) : AE B X (.Call (.Attribute o "get" apos) [e, f] [] cpos) (wDGet2 wo we wf) :=
  PE.weak (pe_dget2 hu ho he hf m) fun σ H K ⟨ρ, S, Q, R, q, k⟩ => ⟨ρ, S, _, R, q, fun v H1 d S1 st ok rd q1 => by
    obtain ⟨a, rfl, hd⟩ := DG.isD ok rd q1.1
    refine ⟨a, rfl, hd, ρ, S1, _, R.step st ok, q1.2, fun u H2 d2 S2 st2 ok2 r2 q2 => ⟨ρ, S2, _, (R.step st ok).step st2 ok2, q2, fun z H3 d3 S3 st3 ok3 r3 q3 => ?_⟩⟩
    obtain ⟨o', g, q3⟩ := q3
    obtain ⟨a', ov, e1, g', h1, h2⟩ := DG_ok ok3 ((rd.step st2).step st3) (r2.step st3) g
    cases e1
    refine ⟨ov, g', ?_⟩
    have kk : KK B.K S3 H3 Q K := ((k.back st).back st2).back st3
    cases o' with
    | none => rw [h2 rfl]; exact kk.here ok3 r3 q3
    | some d' => obtain ⟨v', rfl, rv'⟩ := h1 d' rfl; exact kk.here ok3 rv' q3⟩
/-- d.setdefault(k, x), a cell of int and text keys -/
def wDSetd (wo we wf : WE) : WE := fun ρ S Q => wo ρ S fun x S1 => (∃ y o, DG S1 x y o) ∧ we ρ S1 fun y S2 => wf ρ S2 fun z S3 => ∃ a kvs k, x = .ref a ∧ S3 a = some (.dK kvs) ∧ y = kD k ∧ kvs.length < sizeLine ∧
  (∀ d, getD kvs k = some d → Q d S3) ∧ (getD kvs k = none → Q z (sup S3 a (.dK (putD kvs k z))))
theorem put_dK {K : Kx} {S : Store} {H : Hp} {a : Addr} {xs ys : List (Key × D)} {r us : List (Key × V)} {Q : VQ} {k : VK} {d : D} {v : V} (ok : Ok K S H) (h : S a = some (.dK xs)) (hr : RpK K S H ys us) (rv : Rp K S H d v)
    (q : Q d (sup S a (.dK ys))) (hk : KK K S H Q k) : k v (upd H a (.dK us)) := by
  have st := step_put (o := .dK us) (c := .dK ys) (H := H) h
  exact hk _ _ _ _ st (ok_put ok h True.intro ⟨us, upd_same, RpK.step st hr⟩) (rv.step st) q
theorem ae_dsetd (ho : AE B X o wo) (he : AE B X e we) (hf : AE B X f wf) (m : M2 X o "setdefault" apos e f cpos) : AE B X (.Call (.Attribute o "setdefault" apos) [e, f] [] cpos) (wDSetd wo we wf) :=
  PE.weak (pe_dsetd ho he hf m) fun σ H K ⟨ρ, S, Q, R, q, k⟩ => ⟨ρ, S, _, R, q, fun v H1 d S1 st ok rd q1 => by
    obtain ⟨a, rfl, hd⟩ := DG.isD ok rd q1.1
    refine ⟨a, rfl, hd, ρ, S1, _, R.step st ok, q1.2, fun u H2 d2 S2 st2 ok2 r2 q2 => ⟨ρ, S2, _, (R.step st ok).step st2 ok2, q2, fun z H3 d3 S3 st3 ok3 r3 q3 => ?_⟩⟩
    obtain ⟨a', kvs, ky, rfl, hs, rfl, hl, g1, g2⟩ := q3
    have e1 := of_ref rd
    cases e1
    obtain ⟨r, hh, hr⟩ := ok3.c _ _ hs
    have ra := RpK_iff.mp hr
    have kk : KK B.K S3 H3 Q K := ((k.back st).back st2).back st3
    refine ⟨r, ky, hh, of_kD (r2.step st3), by rw [← ra.length]; exact hl, fun v hv => ?_, fun hn => ?_⟩
    · cases g : getD kvs ky with
      | none => rw [(ra.get (k := ky)).2 g] at hv; cases hv
      | some d' =>
        obtain ⟨v', e, rv'⟩ := (ra.get (k := ky)).1 d' g
        rw [hv] at e; cases e
        exact kk.here ok3 rv' (g1 d' g)
    · cases g : getD kvs ky with
      | some d' =>
        obtain ⟨v', e, rv'⟩ := (ra.get (k := ky)).1 d' g
        rw [hn] at e; cases e
      | none => exact put_dK (r := r) ok3 hs (RpK_iff.mpr (ra.put r3)) r3 (g2 g) kk⟩
/-- d.pop(k), a cell of int and text keys, k there -/
def wDPop1 (wo we : WE) : WE := fun ρ S Q => wo ρ S fun x S1 => (∃ y o, DG S1 x y o) ∧ we ρ S1 fun y S2 => ∃ a kvs k d, x = .ref a ∧ S2 a = some (.dK kvs) ∧ y = kD k ∧ getD kvs k = some d ∧ Q d (sup S2 a (.dK (delD kvs k)))
theorem ae_dpop1 (ho : AE B X o wo) (he : AE B X e we) (m : M1 X o "pop" apos e cpos) : AE B X (.Call (.Attribute o "pop" apos) [e] [] cpos) (wDPop1 wo we) :=
  PE.weak (pe_dpop1 ho he m) fun σ H K ⟨ρ, S, Q, R, q, k⟩ => ⟨ρ, S, _, R, q, fun v H1 d S1 st ok rd q1 => by
    obtain ⟨a, rfl, hd⟩ := DG.isD ok rd q1.1
    refine ⟨a, rfl, hd, ρ, S1, _, R.step st ok, q1.2, fun u H2 d2 S2 st2 ok2 r2 q2 => ?_⟩
    obtain ⟨a', kvs, ky, d', rfl, hs, rfl, g, q3⟩ := q2
    have e1 := of_ref rd
    cases e1
    obtain ⟨r, hh, hr⟩ := ok2.c _ _ hs
    have ra := RpK_iff.mp hr
    obtain ⟨v', e, rv'⟩ := (ra.get (k := ky)).1 d' g
    exact ⟨r, ky, v', hh, of_kD r2, e, put_dK (r := r) ok2 hs (RpK_iff.mpr ra.del) rv' q3 ((k.back st).back st2)⟩⟩
end
end KR
set_option Elab.async false
set_option linter.all false
set_option maxRecDepth 100000
namespace KR
open PySem PySem.Spec PyProof.Rows L2
/-! ### statements -/
structure AEnds where
  nx : AR → Store → Prop
  rt : VQ
  bk : AR → Store → Prop := fun _ _ => False
  ct : AR → Store → Prop := fun _ _ => False
abbrev WS := AEnds → AR → Store → Prop
structure Imp (B : Bs) (S : Store) (H : Hp) (E : AEnds) (D : Ends) : Prop where
  nx : ∀ ρ' S' σ' H', Step S H S' H' → Rel B ρ' S' σ' H' → E.nx ρ' S' → D.nx σ' H'
  rt : ∀ d S' v H', Step S H S' H' → Ok B.K S' H' → Rp B.K S' H' d v → E.rt d S' → D.rt v H'
  bk : ∀ ρ' S' σ' H', Step S H S' H' → Rel B ρ' S' σ' H' → E.bk ρ' S' → D.bk σ' H'
  ct : ∀ ρ' S' σ' H', Step S H S' H' → Rel B ρ' S' σ' H' → E.ct ρ' S' → D.ct σ' H'
theorem Imp.back {B : Bs} {S S1 : Store} {H H1 : Hp} {E : AEnds} {D : Ends} (i : Imp B S H E D) (st : Step S H S1 H1) : Imp B S1 H1 E D :=
  ⟨fun ρ S' σ H' s => i.nx ρ S' σ H' (st.trans s), fun d S' v H' s => i.rt d S' v H' (st.trans s), fun ρ S' σ H' s => i.bk ρ S' σ H' (st.trans s), fun ρ S' σ H' s => i.ct ρ S' σ H' (st.trans s)⟩
def tws (B : Bs) (w : WS) : TS := fun D σ H => ∃ ρ S E, Rel B ρ S σ H ∧ w E ρ S ∧ Imp B S H E D
abbrev AS (B : Bs) (X : Cx) (st : Stmt) (w : WS) : Prop := PS X st (tws B w)
abbrev ASs (B : Bs) (X : Cx) (st : List Stmt) (w : WS) : Prop := PSs X st (tws B w)
section
variable {B : Bs} {X : Cx} {st : Stmt} {rest sts sts2 : List Stmt} {w w1 w2 : WS} {e o i : Expr} {we wo wi : WE} {pos pos' : Pos}
def wNext : WS := fun E ρ S => E.nx ρ S
def wSeq (w1 w2 : WS) : WS := fun E ρ S => w1 { E with nx := fun ρ' S' => w2 E ρ' S' } ρ S
theorem as_nil : ASs B X [] wNext := PSs.weak pss_nil fun D σ H ⟨ρ, S, E, R, q, i⟩ => i.nx ρ S σ H Step.refl R q
theorem as_cons (h1 : AS B X st w1) (h2 : ASs B X rest w2) : ASs B X (st :: rest) (wSeq w1 w2) := PSs.weak (pss_cons h1 h2) fun D σ H ⟨ρ, S, E, R, q, i⟩ =>
  ⟨ρ, S, _, R, q, fun ρ' S' σ' H' s R' q' => ⟨ρ', S', E, R', q', i.back s⟩, i.rt, i.bk, i.ct⟩
theorem as_one (h1 : AS B X st w1) : ASs B X [st] w1 := pss_one h1
/-- a word between a statement and the rest: what follows is shown once -/
def wCut (w1 w2 : WS) : WS := fun E ρ S => ∃ Mid : AR → Store → Prop, w1 { E with nx := Mid } ρ S ∧ ∀ ρ' S', Mid ρ' S' → w2 E ρ' S'
theorem as_cut (h1 : AS B X st w1) (h2 : ASs B X rest w2) : ASs B X (st :: rest) (wCut w1 w2) := PSs.weak (pss_cons h1 h2) fun D σ H ⟨ρ, S, E, R, ⟨Mid, q, m⟩, i⟩ =>
  ⟨ρ, S, _, R, q, fun ρ' S' σ' H' s R' q' => ⟨ρ', S', E, R', m ρ' S' q', i.back s⟩, i.rt, i.bk, i.ct⟩
theorem as_pass : AS B X (.Pass pos) wNext := PS.weak ps_pass fun D σ H ⟨ρ, S, E, R, q, i⟩ => i.nx ρ S σ H Step.refl R q
def wCont : WS := fun E ρ S => E.ct ρ S
def wBreak : WS := fun E ρ S => E.bk ρ S
theorem as_cont : AS B X (.Continue pos) wCont := PS.weak ps_continue fun D σ H ⟨ρ, S, E, R, q, i⟩ => i.ct ρ S σ H Step.refl R q
theorem as_break : AS B X (.Break pos) wBreak := PS.weak ps_break fun D σ H ⟨ρ, S, E, R, q, i⟩ => i.bk ρ S σ H Step.refl R q
def wExpr (we : WE) : WS := fun E ρ S => we ρ S fun _ S1 => E.nx ρ S1
theorem as_expr (he : AE B X e we) (hs : swapsWith e none pos.line X.env = pure false := by rfl) : AS B X (.Expr e pos) (wExpr we) := PS.weak (ps_expr he hs) fun D σ H ⟨ρ, S, E, R, q, i⟩ =>
  ⟨ρ, S, _, R, q, fun v H1 d S1 s ok rd q1 => i.nx ρ S1 σ H1 s (R.step s ok) q1⟩
def wRet (we : WE) : WS := fun E ρ S => we ρ S fun d S1 => E.rt d S1
theorem as_ret (he : AE B X e we) : AS B X (.Return (some e) pos) (wRet we) := PS.weak (ps_ret he) fun D σ H ⟨ρ, S, E, R, q, i⟩ =>
  ⟨ρ, S, _, R, q, fun v H1 d S1 s ok rd q1 => i.rt d S1 v H1 s ok rd q1⟩
def wRetN : WS := fun E ρ S => E.rt .non S
theorem as_retN : AS B X (.Return none pos) wRetN := PS.weak ps_retN fun D σ H ⟨ρ, S, E, R, q, i⟩ => i.rt .non S .non H Step.refl R.ok rp_non q
def wNever : WS := fun _ _ _ => False
theorem as_never : AS B X st wNever := PS.weak ps_never fun D σ H ⟨ρ, S, E, R, q, i⟩ => q
theorem ass_never : ASs B X sts wNever := PSs.weak pss_never fun D σ H ⟨ρ, S, E, R, q, i⟩ => q
def wIfS (t : WT) (w1 w2 : WS) : WS := fun E ρ S => t ρ S fun b S1 => match b with
  | true => w1 E ρ S1
  | false => w2 E ρ S1
theorem as_if {c : Expr} {t : WT} (hc : AT B X c t) (h1 : ASs B X sts w1) (h2 : ASs B X sts2 w2) : AS B X (.If c sts sts2 pos) (wIfS t w1 w2) := PS.weak (ps_if hc h1 h2) fun D σ H ⟨ρ, S, E, R, q, i⟩ =>
  ⟨ρ, S, _, R, q, fun b H1 S1 s ok q1 => by
    cases b with
    | true => rw [if_pos rfl]; exact ⟨ρ, S1, E, R.step s ok, q1, i.back s⟩
    | false => rw [if_neg (by decide)]; exact ⟨ρ, S1, E, R.step s ok, q1, i.back s⟩⟩
/-! ### storing -/
theorem Rel.set {ρ : AR} {S : Store} {σ : St} {H : Hp} {d : D} {v : V} (R : Rel B ρ S σ H) (rd : Rp B.K S H d v) (j : Nat) : Rel B (ρ.set j (some d)) S (σ.set j (some v)) H :=
  ⟨R.st, R.ok, by simp [R.len], fun k d' e => by
    by_cases hk : j = k
    · subst hk
      by_cases hl : j < ρ.length
      · rw [List.getElem?_set_self hl] at e
        cases e
        exact ⟨v, List.getElem?_set_self (by rw [← R.len]; exact hl), rd⟩
      · rw [List.getElem?_eq_none (by rw [List.length_set]; omega)] at e
        cases e
    · rw [List.getElem?_set_ne hk] at e ⊢
      exact R.vs k d' e⟩
def wSet (j : Nat) (we : WE) : WS := fun E ρ S => we ρ S fun d S1 => E.nx (ρ.set j (some d)) S1
theorem tws_set {j : Nat} : ∀ D σ H, tws B (wSet j we) D σ H → tAsg (tw B we) (gName j) D σ H := fun D σ H ⟨ρ, S, E, R, q, i⟩ =>
  ⟨ρ, S, _, R, q, fun v H1 d S1 s ok rd q1 => i.nx _ S1 _ H1 s ((R.step s ok).set rd j) q1⟩
theorem as_set {j : Nat} {x : Str} {p' : Pos} (hN : X.N.Nodup) (hi : X.N[j]? = some x) (hx : Loc X.env.scope x) (he : AE B X e we) (hs : swapsWith e (some (.Name x p')) pos.line X.env = pure false := by rfl)
    (hf : X.fn x = true ∨ X.env.scope.names.lookup x = some .local := by first | exact .inl rfl | exact .inr rfl | assumption) : AS B X (.Assign [.Name x p'] e pos) (wSet j we) :=
  PS.weak (ps_set hN hi hx he hs hf) tws_set
theorem wipe_set0 {σ : St} {i : Nat} {o : Option V} : ∀ vs : List Nat, (wipe (σ.set i o) vs).set i none = (wipe σ vs).set i none
  | [] => by simp [wipe]
  | v :: vs => by
    have ih := wipe_set0 (σ := σ) (i := i) (o := o) vs
    simp only [wipe]
    by_cases e : v = i
    · subst e
      simp only [List.set_set]
      exact ih
    · rw [List.set_comm _ _ e, ih, List.set_comm _ _ (Ne.symm e)]
theorem wipe_set {σ : St} {i : Nat} {o : Option V} : ∀ {vs : List Nat}, i ∈ vs → wipe (σ.set i o) vs = wipe σ vs
  | v :: vs, h => by
    simp only [wipe]
    by_cases e : v = i
    · subst e
      exact wipe_set0 vs
    · rcases List.mem_cons.mp h with q | q
      · exact absurd q.symm e
      · rw [wipe_set q]
/-- patterns of targets -/
inductive Pat where
  | name (i : Nat) | tup (ps : List Pat)
mutual
def patG (K : PySem.W.Frag) : Pat → TG
  | .name i => gName i
  | .tup ps => gTup K ps.length (patGs K ps)
def patGs (K : PySem.W.Frag) : List Pat → TGs
  | [] => gNil
  | p :: ps => gCons (patG K p) (patGs K ps)
end
mutual
/-- what a pattern does with a value -/
def patW : Pat → D → AR → Option AR
  | .name i, d, ρ => some (ρ.set i (some d))
  | .tup ps, d, ρ => match asT d with
    | some xs => patWs ps xs ρ
    | none => none
def patWs : List Pat → List D → AR → Option AR
  | [], [], ρ => some ρ
  | p :: ps, d :: ds, ρ => match patW p d ρ with
    | some ρ' => patWs ps ds ρ'
    | none => none
  | _, _, _ => none
end
mutual
/-- the slots that a pattern stores -/
def patI : Pat → List Nat
  | .name i => [i]
  | .tup ps => patIs ps
def patIs : List Pat → List Nat
  | [] => []
  | p :: ps => patI p ++ patIs ps
end
theorem patWs_len : ∀ {ps : List Pat} {ds : List D} {ρ ρ' : AR}, patWs ps ds ρ = some ρ' → ds.length = ps.length
  | [], [], _, _, _ => rfl
  | p :: ps, d :: ds, ρ, ρ', h => by
    unfold patWs at h
    split at h
    · rename_i ρ1 h1
      rw [List.length_cons, List.length_cons, patWs_len h]
    · cases h
  | [], _ :: _, _, _, h => by unfold patWs at h; cases h
  | _ :: _, [], _, _, h => by unfold patWs at h; cases h
mutual
theorem pat_ok (hk : X.K = B.K.K) : ∀ {p : Pat} {d : D} {v : V} {ρ ρ' : AR} {S : Store} {σ : St} {H : Hp} {Q : St → Hp → Prop}, Rel B ρ S σ H → Rp B.K S H d v → patW p d ρ = some ρ' →
    (∀ σ', Rel B ρ' S σ' H → (∀ vs : List Nat, (∀ j ∈ patI p, j ∈ vs) → wipe σ' vs = wipe σ vs) → Q σ' H) → patG X.K p v σ H Q
  | .name i, d, v, ρ, ρ', S, σ, H, Q, R, rd, h, k => by
    unfold patW at h
    cases h
    refine k _ (R.set rd i) fun vs hv => ?_
    have hm : i ∈ vs := hv i (by unfold patI; simp)
    exact wipe_set hm
  | .tup ps, d, v, ρ, ρ', S, σ, H, Q, R, rd, h, k => by
    unfold patW at h
    split at h
    · rename_i xs hx
      obtain ⟨a, vs, rfl, g, r⟩ := asT_ok rd hx
      unfold patG
      refine ⟨a, vs, rfl, by rw [hk]; exact g, ?_, ?_⟩
      · rw [← r.length]; exact patWs_len h
      · exact pats_ok hk R r h fun σ' R' w => k σ' R' fun vs hv => w vs (by unfold patI at hv; exact hv)
    · cases h
theorem pats_ok (hk : X.K = B.K.K) : ∀ {ps : List Pat} {ds : List D} {vs : List V} {ρ ρ' : AR} {S : Store} {σ : St} {H : Hp} {Q : St → Hp → Prop}, Rel B ρ S σ H → Rps B.K S H ds vs → patWs ps ds ρ = some ρ' →
    (∀ σ', Rel B ρ' S σ' H → (∀ vs : List Nat, (∀ j ∈ patIs ps, j ∈ vs) → wipe σ' vs = wipe σ vs) → Q σ' H) → patGs X.K ps vs σ H Q
  | [], [], vs, ρ, ρ', S, σ, H, Q, R, rd, h, k => by
    unfold patWs at h
    cases h
    unfold patGs
    exact ⟨rd.nil_of, k σ R fun _ _ => rfl⟩
  | p :: ps, d :: ds, vs, ρ, ρ', S, σ, H, Q, R, rd, h, k => by
    unfold patWs at h
    split at h
    · rename_i ρ1 h1
      obtain ⟨v, us, rfl, r1, r2⟩ := rd.uncons
      unfold patGs
      refine ⟨v, us, rfl, pat_ok hk R r1 h1 fun σ1 R1 w1 => pats_ok hk R1 r2 h fun σ' R' w2 => k σ' R' fun vs hv => ?_⟩
      unfold patIs at hv
      rw [w2 vs fun j hj => hv j (List.mem_append_right _ hj), w1 vs fun j hj => hv j (List.mem_append_left _ hj)]
    · cases h
  | [], _ :: _, _, _, _, _, _, _, _, _, _, h, _ => by unfold patWs at h; cases h
  | _ :: _, [], _, _, _, _, _, _, _, _, _, h, _ => by unfold patWs at h; cases h
end
/-- target = value, by a pattern -/
def wAsg (p : Pat) (we : WE) : WS := fun E ρ S => we ρ S fun d S1 => ∃ ρ', patW p d ρ = some ρ' ∧ E.nx ρ' S1
theorem as_asg {tg : Expr} {p : Pat} (hk : X.K = B.K.K) (he : AE B X e we) (hg : PG X tg (patG X.K p)) (hs : swapsWithSole [tg] e pos.line X.env = pure false := by rfl) (hw : swappedStores [tg] e X.env = pure none := by rfl)
    (h1 : (assignEach [tg] X.env).map (·.2) = [assign tg X.env] := by rfl) : AS B X (.Assign [tg] e pos) (wAsg p we) := PS.weak (ps_asg he hg hs hw h1) fun D σ H ⟨ρ, S, E, R, q, i⟩ =>
  ⟨ρ, S, _, R, q, fun v H1 d S1 s ok rd ⟨ρ', hp, q1⟩ => pat_ok hk (R.step s ok) rd hp fun σ' R' _ => i.nx ρ' S1 σ' H1 s R' q1⟩
/-- name op= e -/
def wAug (j : Nat) (o : W2) (we : WE) : WS := fun E ρ S => ∃ x, ρ[j]? = some (some x) ∧ we ρ S fun y S1 => o x y S1 fun z S2 => E.nx (ρ.set j (some z)) S2
def SIp (K : Kx) (t : TIp) (o : W2) : Prop := SR K t o
theorem as_aug {j : Nat} {x : Str} {op : Operator} {t : TIp} {oo : W2} {p' : Pos} (hN : X.N.Nodup) (hi : X.N[j]? = some x) (hx : Loc X.env.scope x) (he : AE B X e we) (ho : PIp X op t) (hs : SR B.K t oo)
    (hf : X.fn x = true ∨ X.env.scope.names.lookup x = some .local := by first | exact .inl rfl | exact .inr rfl | assumption) : AS B X (.AugAssign (.Name x p') op e pos) (wAug j oo we) :=
  PS.weak (ps_aug hN hi hx he ho hf) fun D σ H ⟨ρ, S, E, R, ⟨x, ex, q⟩, i⟩ => by
    obtain ⟨v, ev, rv⟩ := R.vs j x ex
    exact ⟨v, ev, ρ, S, _, R, q, fun u H1 y S1 s1 ok1 r1 q1 => hs v u x y S1 H1 _ _ ok1 (rv.step s1) r1 q1 fun z H2 f S2 s2 ok2 r2 q2 =>
      i.nx _ S2 _ H2 (s1.trans s2) (((R.step s1 ok1).step s2 ok2).set r2 j) q2⟩
theorem sr_ipI {f : Int → Int → Int} {K : Kx} : SR K (ipI f) (oI (fun _ _ => True) fun i j => .int (f i j)) := by
  intro x y d e S H Q k ok rx ry q hk
  unfold oI at q
  split at q
  · exact ⟨_, _, of_int rx, of_int ry, hk.here ok rp_int q.2⟩
  · exact q.elim
/-- o[i] = v, a cell -/
def oSet (x y v : D) (S : Store) (Q : Store → Prop) : Prop := (∃ a xs k j, x = .ref a ∧ y = .int k ∧ S a = some (.lst xs) ∧ ixN xs.length k = some j ∧ Q (sup S a (.lst (xs.set j v)))) ∨
  (∃ a kvs k, x = .ref a ∧ y = kD k ∧ S a = some (.dK kvs) ∧ kvs.length < sizeLine ∧ Q (sup S a (.dK (putD kvs k v)))) ∨ ∃ a kvs ks, x = .ref a ∧ y = .tup (ks.map kD) ∧ S a = some (.dT kvs) ∧ kvs.length < sizeLine ∧ Q (sup S a (.dT (putD kvs ks v)))
theorem set_l {a : Addr} {xs : List D} {k : Int} {j : Nat} {v : D} {S : Store} {Q : Store → Prop} (h : S a = some (.lst xs)) (hj : ixN xs.length k = some j) (q : Q (sup S a (.lst (xs.set j v)))) : oSet (.ref a) (.int k) v S Q := .inl ⟨a, xs, k, j, rfl, rfl, h, hj, q⟩
theorem set_s {a : Addr} {kvs : List (Key × D)} {k : Str} {v : D} {S : Store} {Q : Store → Prop} (h : S a = some (.dK kvs)) (hz : kvs.length < sizeLine) (q : Q (sup S a (.dK (putD kvs (.inr k) v)))) : oSet (.ref a) (.str k) v S Q := .inr (.inl ⟨a, kvs, .inr k, rfl, rfl, h, hz, q⟩)
theorem set_i {a : Addr} {kvs : List (Key × D)} {k : Int} {v : D} {S : Store} {Q : Store → Prop} (h : S a = some (.dK kvs)) (hz : kvs.length < sizeLine) (q : Q (sup S a (.dK (putD kvs (.inl k) v)))) : oSet (.ref a) (.int k) v S Q := .inr (.inl ⟨a, kvs, .inl k, rfl, rfl, h, hz, q⟩)
theorem set_t {a : Addr} {kvs : List (List Key × D)} {ks : List Key} {v : D} {S : Store} {Q : Store → Prop} (h : S a = some (.dT kvs)) (hz : kvs.length < sizeLine) (q : Q (sup S a (.dT (putD kvs ks v)))) : oSet (.ref a) (.tup (ks.map kD)) v S Q := .inr (.inr ⟨a, kvs, ks, rfl, rfl, h, hz, q⟩)
def rSetA : TSet := fun o i v H Q => rSetL o i v H Q ∨ ∃ a H', o = .ref a ∧ DPut H a i v H' ∧ Q H'
theorem set_all (hu : X.A.units + 1 < cLine) : PSet X rSetA := by
  intro pins s σ H o i v ov iv u Q I ro ri rv h
  rcases h with h | h
  · exact set_list pins s σ H o i v ov iv u Q I ro ri rv h
  · exact set_dict hu pins s σ H o i v ov iv u Q I ro ri rv h
def wSub (wo wi wv : WE) : WS := fun E ρ S => wv ρ S fun v S1 => wo ρ S1 fun x S2 => wi ρ S2 fun y S3 => oSet x y v S3 fun S4 => E.nx ρ S4
theorem as_sub (hu : X.A.units + 1 < cLine) (ho : AE B X o wo) (hi : AE B X i wi) (hv : AE B X e we)
    (hs : swapsWithSole [.Subscript o i pos'] e pos.line X.env = pure false := by rfl) (hw : swappedStores [.Subscript o i pos'] e X.env = pure none := by rfl)
    (h1 : (assignEach [.Subscript o i pos'] X.env).map (·.2) = [assign (.Subscript o i pos') X.env] := by rfl)
    (ha : ∀ v, assign (.Subscript o i pos') X.env v = (do
      let ov ← holding [v] (eval o X.env)
      let iv ← holding [v, ov] (eval i X.env)
      standAt pos'
      holding [v, ov, iv] (setItem ov iv v)
      release [v, ov, iv] []) := by intro _; rfl) : AS B X (.Assign [.Subscript o i pos'] e pos) (wSub wo wi we) :=
  PS.weak (ps_asg hv (pg_sub ho hi (set_all hu) ha) hs hw h1) fun D σ H ⟨ρ, S, E, R, q, im⟩ =>
    ⟨ρ, S, _, R, q, fun v H1 d S1 s1 ok1 r1 q1 => ⟨ρ, S1, _, R.step s1 ok1, q1, fun x H2 dx S2 s2 ok2 r2 q2 => ⟨ρ, S2, _, (R.step s1 ok1).step s2 ok2, q2, fun y H3 dy S3 s3 ok3 r3 q3 => by
      have R3 := ((R.step s1 ok1).step s2 ok2).step s3 ok3
      have s13 := (s1.trans s2).trans s3
      have rv := (r1.step s2).step s3
      have rx := r2.step s3
      rcases q3 with ⟨a, xs, k, j, rfl, rfl, hS, hj, q3⟩ | ⟨a, kvs, k, rfl, rfl, hS, hz, q3⟩ | ⟨a, kvs, ks, rfl, rfl, hS, hz, q3⟩
      · obtain ⟨us, hh, r⟩ := ok3.c a _ hS
        have st := step_put (o := .lst (us.set j v)) (c := .lst (xs.set j d)) (H := H3) hS
        have zz := ok3.z a us (.inl (.inl hh))
        have okn := ok_put ok3 hS (o := .lst (us.set j v)) (c := .lst (xs.set j d)) (by show (us.set j v).length ≤ sizeLine; rw [List.length_set]; exact zz) ⟨_, upd_same, Rps.step st (r.set rv j)⟩
        exact .inl ⟨a, us, k, j, of_ref rx, of_int r3, hh, by rw [← r.length]; exact hj, im.nx ρ _ σ _ (s13.trans st) (R3.step st okn) q3⟩
      · obtain ⟨r, hh, hr⟩ := ok3.c a _ hS
        have ra := RpK_iff.mp hr
        have st := step_put (o := .dK (putK r k v)) (c := .dK (putD kvs k d)) (H := H3) hS
        have okn := ok_put ok3 hS (o := .dK (putK r k v)) (c := .dK (putD kvs k d)) True.intro ⟨_, upd_same, RpK.step st (RpK_iff.mpr (ra.put rv))⟩
        refine .inr ⟨a, _, of_ref rx, ?_, im.nx ρ _ σ _ (s13.trans st) (R3.step st okn) q3⟩
        rw [of_kD r3]
        exact DPut.k hh (by rw [← ra.length]; exact hz)
      · obtain ⟨r, hh, hr⟩ := ok3.c a _ hS
        have ra := RpT_iff.mp hr
        obtain ⟨b, vs, rfl, _, hb, rb⟩ := of_tup r3
        rw [of_kDs rb] at hb
        have st := step_put (o := .dT (putK r ks v)) (c := .dT (putD kvs ks d)) (H := H3) hS
        have okn := ok_put ok3 hS (o := .dT (putK r ks v)) (c := .dT (putD kvs ks d)) True.intro ⟨_, upd_same, RpT.step st (RpT_iff.mpr (ra.put rv))⟩
        exact .inr ⟨a, _, of_ref rx, DPut.t hh hb (by rw [← ra.length]; exact hz), im.nx ρ _ σ _ (s13.trans st) (R3.step st okn) q3⟩⟩⟩⟩
end
end KR
set_option Elab.async false
set_option linter.all false
set_option maxRecDepth 100000
namespace KR
open PySem PySem.Spec PyProof.Rows L2
/-! ### what is walked -/
abbrev WI := AR → Store → (List D → (Store → Prop) → Store → Prop) → Prop
def ItR (K : Kx) (J : It) (ds : List D) (kp : Store → Prop) (S0 : Store) (H0 : Hp) : Prop :=
  ∀ S H, Step S0 H0 S H → Ok K S H → kp S → (∀ i d, ds[i]? = some d → J.go i H ∧ ∀ x H', J.yld i H x H' → Step S H S H' ∧ Ok K S H' ∧ Rp K S H' d x) ∧ ∀ i, ds.length ≤ i → J.stop i H
def twi (B : Bs) (w : WI) : TI := fun σ H R => ∃ ρ S Q, Rel B ρ S σ H ∧ w ρ S Q ∧ ∀ J ds kp H' S', Step S H S' H' → Ok B.K S' H' → ItR B.K J ds kp S' H' → Q ds kp S' → R J H'
abbrev AI (B : Bs) (X : Cx) (tg iter : Expr) (w : WI) : Prop := PI X tg iter (twi B w)
theorem PI.weak {X : Cx} {tg iter : Expr} {t t' : TI} (h : PI X tg iter t) (i : ∀ σ H R, t' σ H R → t σ H R) : PI X tg iter t' := ⟨fun pins s σ H R I q => h.run pins s σ H R I (i _ _ _ q)⟩
/-- a cell that is walked must stay as it is -/
def kpL (x : D) (xs : List D) : Store → Prop := fun S => asL S x = some xs
section
variable {B : Bs} {X : Cx} {tg e e2 : Expr} {es : List Expr} {we : WE} {wa : WA} {p pos : Pos}
def wiL (we : WE) : WI := fun ρ S Q => we ρ S fun x S1 => ∃ xs, asL S1 x = some xs ∧ (xs.length ≤ sizeLine → Q xs (kpL x xs) S1)
theorem itR_list {K : Kx} {S0 : Store} {H0 : Hp} {x : D} {xs : List D} {a : Addr} (r : Rp K S0 H0 x (.ref a)) : ItR K (Itl K.K a) xs (kpL x xs) S0 H0 := fun S H st ok kp => by
  obtain ⟨a', vs, e, g, rr⟩ := asL_ok ok (r.step st) kp
  cases e
  refine ⟨fun i d hd => ?_, fun i hi => ⟨vs, g, by rw [← rr.length]; exact hi⟩⟩
  obtain ⟨v, hv, rv⟩ := rr.get hd
  refine ⟨⟨vs, v, g, hv⟩, fun y H' hy => ?_⟩
  obtain ⟨e, hy⟩ := hy
  subst e
  have := hy vs g
  rw [hv] at this
  cases this
  exact ⟨Step.refl, ok, rv⟩
theorem ai_list (hk : X.K = B.K.K) (he : AE B X e we) : AI B X tg e (wiL we) := PI.weak (pi_list he) fun σ H R ⟨ρ, S, Q, r, q, k⟩ => ⟨ρ, S, _, r, q, fun v H1 d S1 st ok rd ⟨xs, hx, q1⟩ => by
  obtain ⟨a, vs, rfl, g, rr⟩ := asL_ok ok rd hx
  refine ⟨a, rfl, ⟨vs, by rw [hk]; exact g⟩, ?_⟩
  rw [hk]
  exact k _ xs _ H1 S1 st ok (itR_list rd) (q1 (by rw [rr.length]; exact sql_len ok g))⟩
def wiT (we : WE) : WI := fun ρ S Q => we ρ S fun x S1 => ∃ xs, asT x = some xs ∧ (xs.length ≤ sizeLine → Q xs (fun _ => True) S1)
theorem ai_tup (hk : X.K = B.K.K) (he : AE B X e we) : AI B X tg e (wiT we) := PI.weak (pi_tup he) fun σ H R ⟨ρ, S, Q, r, q, k⟩ => ⟨ρ, S, _, r, q, fun v H1 d S1 st ok rd ⟨xs, hx, q1⟩ => by
  obtain ⟨a, vs, rfl, g, rr⟩ := asT_ok rd hx
  refine ⟨a, rfl, ⟨vs, by rw [hk]; exact g⟩, ?_⟩
  rw [hk]
  refine k _ xs _ H1 S1 st ok (fun S2 H2 st2 ok2 _ => ?_) (q1 (by rw [rr.length]; exact sqt_len ok g))
  obtain ⟨a', vs', e, g2, rr2⟩ := asT_ok (rd.step st2) hx
  cases e
  refine ⟨fun i d hd => ?_, fun i hi => ⟨vs', g2, by rw [← rr2.length]; exact hi⟩⟩
  obtain ⟨v, hv, rv⟩ := rr2.get hd
  refine ⟨⟨vs', v, g2, hv⟩, fun y H' hy => ?_⟩
  obtain ⟨e, hy⟩ := hy
  subst e
  have := hy vs' g2
  rw [hv] at this
  cases this
  exact ⟨Step.refl, ok2, rv⟩⟩
def rangeD (lo : Int) (n : Nat) : List D := (List.range n).map fun (i : Nat) => .int (lo + (i : Int))
theorem rangeD_get {lo : Int} {n i : Nat} {d : D} (h : (rangeD lo n)[i]? = some d) : i < n ∧ d = .int (lo + i) := by
  unfold rangeD at h
  rw [List.getElem?_map] at h
  by_cases hi : i < n
  · rw [List.getElem?_range hi] at h
    cases h
    exact ⟨hi, rfl⟩
  · rw [List.getElem?_eq_none (by simpa using hi)] at h
    cases h
theorem rangeD_length (lo : Int) (n : Nat) : (rangeD lo n).length = n := by unfold rangeD; simp
theorem itR_range {K : Kx} {S0 : Store} {H0 : Hp} {lo : Int} {n : Nat} : ItR K (Itr lo n) (rangeD lo n) (fun _ => True) S0 H0 := fun S H st ok _ => by
  refine ⟨fun i d hd => ?_, fun i hi => by rw [rangeD_length] at hi; exact hi⟩
  obtain ⟨hi, rfl⟩ := rangeD_get hd
  refine ⟨hi, fun y H' hy => ?_⟩
  obtain ⟨e, e2⟩ := hy
  subst e e2
  exact ⟨Step.refl, ok, rp_int⟩
def wiR1 (wa : WA) : WI := fun ρ S Q => wa ρ S fun ds S1 => ∃ j : Int, ds = [.int j] ∧ -(2 ^ 62) ≤ j ∧ j < 2 ^ 62 ∧ Q (rangeD 0 j.toNat) (fun _ => True) S1
def wiR2 (wa : WA) : WI := fun ρ S Q => wa ρ S fun ds S1 => ∃ i j : Int, ds = [.int i, .int j] ∧ (-(2 ^ 62) ≤ i ∧ i < 2 ^ 62 ∧ -(2 ^ 62) ≤ j ∧ j < 2 ^ 62) ∧ Q (rangeD i (j - i).toNat) (fun _ => True) S1
theorem ai_range1 (hg : Gl X "range") (hm : X.mg "range" = none) (ha : AA B X [e] wa) (hs : starEach [e] X.env = [(false, eval e X.env)] := by rfl) : AI B X tg (.Call (.Name "range" p) [e] [] pos) (wiR1 wa) :=
  PI.weak (pi_range1 hg hm ha hs) fun σ H R ⟨ρ, S, Q, r, q, k⟩ => ⟨ρ, S, _, r, q, fun vs H1 ds S1 st ok rd ⟨j, e, h1, h2, q1⟩ => by
    subst e
    obtain ⟨v, rfl, rv⟩ := rd.one
    rw [of_int rv]
    exact ⟨j, rfl, h1, h2, k _ _ _ H1 S1 st ok itR_range q1⟩⟩
theorem ai_range2 (hg : Gl X "range") (hm : X.mg "range" = none) (ha : AA B X [e, e2] wa) (hs : starEach [e, e2] X.env = [(false, eval e X.env), (false, eval e2 X.env)] := by rfl) (hs2 : starEach [e2] X.env = [(false, eval e2 X.env)] := by rfl) :
    AI B X tg (.Call (.Name "range" p) [e, e2] [] pos) (wiR2 wa) :=
  PI.weak (pi_range2 hg hm ha hs hs2) fun σ H R ⟨ρ, S, Q, r, q, k⟩ => ⟨ρ, S, _, r, q, fun vs H1 ds S1 st ok rd ⟨i, j, e, h1, q1⟩ => by
    subst e
    obtain ⟨v, u, rfl, rv, ru⟩ := rd.two
    rw [of_int rv, of_int ru]
    exact ⟨i, j, rfl, h1, k _ _ _ H1 S1 st ok itR_range q1⟩⟩
/-- the signs of a text -/
def signsD (x : Str) : List D := x.cps.toList.map fun c => .str ⟨#[c]⟩
def wiS (we : WE) : WI := fun ρ S Q => we ρ S fun x S1 => ∃ z, x = .str z ∧ Q (signsD z) (fun _ => True) S1
theorem ai_str (he : AE B X e we) : AI B X tg e (wiS we) := PI.weak (pi_str he) fun σ H R ⟨ρ, S, Q, r, q, k⟩ => ⟨ρ, S, _, r, q, fun v H1 d S1 st ok rd ⟨z, hz, q1⟩ => by
  subst hz
  refine ⟨z, of_str rd, k _ _ _ H1 S1 st ok (fun S2 H2 st2 ok2 _ => ?_) q1⟩
  have hl : (signsD z).length = z.cps.size := by unfold signsD; simp
  refine ⟨fun i d hd => ?_, fun i hi => by rw [hl] at hi; exact hi⟩
  unfold signsD at hd
  rw [List.getElem?_map] at hd
  obtain ⟨c, hc, rfl⟩ := Option.map_eq_some_iff.mp hd
  have hc' : z.cps[i]? = some c := by rw [← Array.getElem?_toList]; exact hc
  refine ⟨(Array.getElem?_eq_some_iff.mp hc').1, fun y H' hy => ?_⟩
  obtain ⟨e, c', h', rfl⟩ := hy
  subst e
  rw [hc'] at h'
  cases h'
  exact ⟨Step.refl, ok2, rp_str⟩⟩
/-- places and items -/
def enumD (xs : List D) : List D := xs.zipIdx.map fun q => .tup [.int (q.2 : Nat), q.1]
theorem enumD_get {xs : List D} {i : Nat} {d : D} (h : (enumD xs)[i]? = some d) : ∃ x, xs[i]? = some x ∧ d = .tup [.int (i : Nat), x] := by
  unfold enumD at h
  rw [List.getElem?_map, List.getElem?_zipIdx] at h
  cases e : xs[i]? with
  | none => rw [e] at h; cases h
  | some x => rw [e] at h; cases h; exact ⟨x, rfl, by simp⟩
theorem enumD_length (xs : List D) : (enumD xs).length = xs.length := by unfold enumD; simp
def wiE (wa : WA) : WI := fun ρ S Q => wa ρ S fun ds S1 => ∃ x xs, ds = [x] ∧ asL S1 x = some xs ∧ (xs.length ≤ sizeLine → Q (enumD xs) (kpL x xs) S1)
theorem pair_new {K : Kx} {S : Store} {H : Hp} {T : Addr} {d f : D} {v u : V} (ok : Ok K S H) (hT : H T = none) (r1 : Rp K S H d v) (r2 : Rp K S H f u) :
    Step S H S (upd H T (.tup [v, u])) ∧ Ok K S (upd H T (.tup [v, u])) ∧ Rp K S (upd H T (.tup [v, u])) (.tup [d, f]) (.ref T) := by
  have st := step_new ok hT (o := .tup [v, u])
  exact ⟨st, ok_new ok hT (by show 2 ≤ sizeLine; decide), rp_tup (ok.new hT) upd_same (Rps.cons (r1.step st) (Rps.cons (r2.step st) Rps.nil))⟩
theorem ai_enum {elts : List Expr} {kk : Nat} {tpos : Pos} (hk : X.K = B.K.K) (hg : Gl X "enumerate") (hm : X.mg "enumerate" = none) (ha : AA B X [e] wa) (hs : starEach [e] X.env = [(false, eval e X.env)] := by rfl) :
    AI B X (.Tuple elts kk tpos) (.Call (.Name "enumerate" p) [e] [] pos) (wiE wa) :=
  PI.weak (pi_enum hg hm ha hs) fun σ H R ⟨ρ, S, Q, r, q, k⟩ => ⟨ρ, S, _, r, q, fun vs H1 ds S1 st ok rd ⟨x, xs, e, hx, q1⟩ => by
    subst e
    obtain ⟨v, rfl, rv⟩ := rd.one
    obtain ⟨a, us, rfl, g, rr⟩ := asL_ok ok rv hx
    refine ⟨a, us, rfl, by rw [hk]; exact g, ?_⟩
    rw [hk]
    refine k _ (enumD xs) _ H1 S1 st ok (fun S2 H2 st2 ok2 kp => ?_) (q1 (by rw [rr.length]; exact sql_len ok g))
    obtain ⟨a', us', e, g2, rr2⟩ := asL_ok ok2 (rv.step st2) kp
    cases e
    refine ⟨fun i d hd => ?_, fun i hi => ⟨us', g2, by rw [enumD_length] at hi; rw [← rr2.length]; exact hi⟩⟩
    obtain ⟨y, hy, rfl⟩ := enumD_get hd
    obtain ⟨u, hu, ru⟩ := rr2.get hy
    refine ⟨⟨us', u, g2, hu⟩, fun z H' hz => ?_⟩
    obtain ⟨T, u', rfl, hT, rfl, hu'⟩ := hz
    have := hu' us' g2
    rw [hu] at this
    cases this
    exact pair_new ok2 hT rp_int ru⟩
/-- two lists side by side -/
def zipD (xs ys : List D) : List D := (xs.zip ys).map fun q => .tup [q.1, q.2]
theorem zipD_get {xs ys : List D} {i : Nat} {d : D} (h : (zipD xs ys)[i]? = some d) : ∃ x y, xs[i]? = some x ∧ ys[i]? = some y ∧ d = .tup [x, y] := by
  unfold zipD at h
  rw [List.getElem?_map] at h
  obtain ⟨q, hq, rfl⟩ := Option.map_eq_some_iff.mp h
  rw [List.getElem?_zip_eq_some] at hq
  exact ⟨q.1, q.2, hq.1, hq.2, rfl⟩
theorem zipD_length (xs ys : List D) : (zipD xs ys).length = min xs.length ys.length := by unfold zipD; simp
def wiZ (wa : WA) : WI := fun ρ S Q => wa ρ S fun ds S1 => ∃ x y xs ys, ds = [x, y] ∧ asL S1 x = some xs ∧ asL S1 y = some ys ∧ (xs.length ≤ sizeLine → ys.length ≤ sizeLine → Q (zipD xs ys) (fun S => kpL x xs S ∧ kpL y ys S) S1)
theorem ai_zip {elts : List Expr} {kk : Nat} {tpos : Pos} (hk : X.K = B.K.K) (hg : Gl X "zip") (hm : X.mg "zip" = none) (ha : AA B X [e, e2] wa)
    (hs : starEach [e, e2] X.env = (false, eval e X.env) :: starEach [e2] X.env := by rfl) (hpl : (backTo pos (starEach [e2] X.env)).any (·.1) = false := by rfl) :
    AI B X (.Tuple elts kk tpos) (.Call (.Name "zip" p) [e, e2] [] pos) (wiZ wa) :=
  PI.weak (pi_zip hg hm ha hs hpl) fun σ H R ⟨ρ, S, Q, r, q, k⟩ => ⟨ρ, S, _, r, q, fun vs H1 ds S1 st ok rd ⟨x, y, xs, ys, e, hx, hy, q1⟩ => by
    subst e
    obtain ⟨v, u, rfl, rv, ru⟩ := rd.two
    obtain ⟨a, us, rfl, g, rr⟩ := asL_ok ok rv hx
    obtain ⟨b, ws, rfl, g', rr'⟩ := asL_ok ok ru hy
    refine ⟨a, b, us, ws, rfl, by rw [hk]; exact g, by rw [hk]; exact g', ?_⟩
    rw [hk]
    refine k _ (zipD xs ys) _ H1 S1 st ok (fun S2 H2 st2 ok2 kp => ?_) (q1 (by rw [rr.length]; exact sql_len ok g) (by rw [rr'.length]; exact sql_len ok g'))
    obtain ⟨a2, us2, e, g2, rr2⟩ := asL_ok ok2 (rv.step st2) kp.1
    cases e
    obtain ⟨b2, ws2, e, g3, rr3⟩ := asL_ok ok2 (ru.step st2) kp.2
    cases e
    refine ⟨fun i d hd => ?_, fun i hi => ⟨us2, ws2, g2, g3, by rw [zipD_length] at hi; rw [← rr2.length, ← rr3.length]; omega⟩⟩
    obtain ⟨c, c', hc, hc', rfl⟩ := zipD_get hd
    obtain ⟨w1, hw1, rw1⟩ := rr2.get hc
    obtain ⟨w2, hw2, rw2⟩ := rr3.get hc'
    refine ⟨⟨us2, ws2, w1, w2, g2, g3, hw1, hw2⟩, fun z H' hz => ?_⟩
    obtain ⟨T, y1, y2, rfl, hT, rfl, e1, e2⟩ := hz
    have h1 := e1 us2 g2
    rw [hw1] at h1
    cases h1
    have h2 := e2 ws2 g3
    rw [hw2] at h2
    cases h2
    exact pair_new ok2 hT rw1 rw2⟩
/-- the keys of a dict that is a tree -/
def wiK (we : WE) : WI := fun ρ S Q => we ρ S fun x S1 => (∃ kvs, x = .dK kvs ∧ Q (kvs.map fun kv => kD kv.1) (fun _ => True) S1) ∨ ∃ kvs, x = .dT kvs ∧ Q (kvs.map fun kv => .tup (kv.1.map kD)) (fun _ => True) S1
theorem RA.at {κ : Type} [DecidableEq κ] {K : Kx} {S : Store} {H : Hp} : ∀ {kvs : List (κ × D)} {r : List (κ × V)} {i : Nat} {k : κ} {d : D}, RA K S H kvs r → kvs[i]? = some (k, d) → ∃ v, r[i]? = some (k, v) ∧ Rp K S H d v
  | [], _, _, _, _, _, e => by simp at e
  | (k', d') :: kvs, _, 0, _, _, h, e => by
    unfold RA at h
    obtain ⟨v, r', rfl, h1, _⟩ := h
    simp at e
    obtain ⟨rfl, rfl⟩ := e
    exact ⟨v, rfl, h1⟩
  | (k', d') :: kvs, _, i + 1, _, _, h, e => by
    unfold RA at h
    obtain ⟨v, r', rfl, _, h2⟩ := h
    exact RA.at (i := i) h2 (by simpa using e)
def wiKK (we : WE) : WI := fun ρ S Q => we ρ S fun x S1 => ∃ kvs, x = .dK kvs ∧ Q (kvs.map fun kv => kD kv.1) (fun _ => True) S1
theorem ai_keysK (he : AE B X e we) : AI B X tg e (wiKK we) := PI.weak (pi_keys he) fun σ H R ⟨ρ, S, Q, r, q, k⟩ => ⟨ρ, S, _, r, q, fun v H1 d S1 st ok rd ⟨kvs, hx, q1⟩ => by
  subst hx
  unfold Rp at rd
  obtain ⟨a, o, r', rfl, hs, hh, rr⟩ := rd
  have ra := RpK_iff.mp rr
  refine ⟨a, o, rfl, .inl ⟨r', hh, k _ _ _ H1 S1 st ok (fun S2 H2 st2 ok2 _ => ?_) q1⟩⟩
  have hh2 := (st2 a _ hs hh).2
  refine ⟨fun i d hd => ?_, fun i hi => ⟨hh2, by rw [List.length_map] at hi; rw [← ra.length]; exact hi⟩⟩
  rw [List.getElem?_map] at hd
  obtain ⟨⟨k', d'⟩, he', rfl⟩ := Option.map_eq_some_iff.mp hd
  obtain ⟨v', hv', _⟩ := RA.at ra he'
  refine ⟨⟨hh2, (List.getElem?_eq_some_iff.mp hv').1⟩, fun y H' hy => ?_⟩
  obtain ⟨e, k2, v2, h2, rfl⟩ := hy
  subst e
  rw [hv'] at h2
  cases h2
  exact ⟨Step.refl, ok2, kD_rp⟩⟩
end

/-! ### for -/
section
variable {B : Bs} {X : Cx} {tg iter : Expr} {sts : List Stmt} {p : Pat} {wi : WI} {wb : WS} {pos : Pos}
def wFor (wi : WI) (p : Pat) (wb : WS) : WS := fun E ρ S => wi ρ S fun ds kp S1 => ∃ Iv : Nat → AR → Store → Prop, Iv 0 ρ S1 ∧ (∀ i ρ S, i ≤ ds.length → Iv i ρ S → kp S) ∧
  (∀ i d ρ S, ds[i]? = some d → Iv i ρ S → ∃ ρ', patW p d ρ = some ρ' ∧ wb { E with nx := Iv (i + 1), ct := Iv (i + 1), bk := E.nx } ρ' S) ∧ ∀ ρ S, Iv ds.length ρ S → E.nx ρ S
theorem as_for (hp : PassesOwn (model X.prog X.w) X.A X.env X.xe) (hc : X.calm = true) (hk : X.K = B.K.K) (hi : AI B X tg iter wi) (hg : PG X tg (patG X.K p)) (hb : ASs B X sts wb)
    (hs : ∀ x, foldedSetIterable iter X.env x = pure x := by intro _; rfl) : AS B X (.For tg iter sts [] pos) (wFor wi p wb) :=
  PS.weak (ps_for hp hc hi hg hb hs) fun D σ H ⟨ρ, S, E, R, q, im⟩ => ⟨ρ, S, _, R, q, fun J ds kp H1 S1 st1 ok1 it ⟨Iv, h0, hkp, hturn, hend⟩ => by
    refine ⟨fun i m σ' H' => ∃ ρ' S', m = ds.length - i ∧ i ≤ ds.length ∧ Rel B ρ' S' σ' H' ∧ Step S1 H1 S' H' ∧ Iv i ρ' S', ⟨ds.length, ρ, S1, by simp, Nat.zero_le _, R.step st1 ok1, Step.refl, h0⟩, ?_⟩
    rintro i m σ' H' ⟨ρ', S', rfl, hi, R', st', iv⟩
    obtain ⟨it1, it2⟩ := it S' H' st' R'.ok (hkp i ρ' S' hi iv)
    by_cases hlt : i < ds.length
    · obtain ⟨go, yl⟩ := it1 i ds[i] (by simp [hlt])
      refine .inr ⟨go, fun σ2 H2 => ∃ ρ2 S2, Rel B ρ2 S2 σ2 H2 ∧ Step S1 H1 S2 H2 ∧ Iv (i + 1) ρ2 S2, fun σ2 H2 ⟨ρ2, S2, R2, st2, iv2⟩ => ⟨ds.length - (i + 1), by omega, ρ2, S2, rfl, hlt, R2, st2, iv2⟩, fun x Hx hx => ?_⟩
      obtain ⟨sx, okx, rx⟩ := yl x Hx hx
      obtain ⟨ρ3, hp3, q3⟩ := hturn i ds[i] ρ' S' (by simp [hlt]) iv
      have Rx := R'.step sx okx
      refine pat_ok hk Rx rx hp3 fun σ3 R3 _ => ⟨ρ3, S', _, R3, q3, ?_⟩
      refine ⟨fun ρ4 S4 σ4 H4 s4 R4 q4 => ⟨ρ4, S4, R4, (st'.trans sx).trans s4, q4⟩, fun d S4 v H4 s4 ok4 r4 q4 => im.rt d S4 v H4 (((st1.trans st').trans sx).trans s4) ok4 r4 q4,
        fun ρ4 S4 σ4 H4 s4 R4 q4 => im.nx ρ4 S4 σ4 H4 (((st1.trans st').trans sx).trans s4) R4 q4, fun ρ4 S4 σ4 H4 s4 R4 q4 => ⟨ρ4, S4, R4, (st'.trans sx).trans s4, q4⟩⟩
    · have e : i = ds.length := by omega
      subst e
      exact .inl ⟨it2 _ (Nat.le_refl _), im.nx ρ' S' σ' H' (st1.trans st') R' (hend ρ' S' iv)⟩⟩
/-! ### while -/
def wWhile (t : WT) (wb : WS) : WS := fun E ρ S => ∃ (Iv : Nat → AR → Store → Prop), (∃ m, Iv m ρ S) ∧ ∀ m ρ S, Iv m ρ S → t ρ S fun b S1 => match b with
  | true => wb { E with nx := fun ρ' S' => ∃ m', m' < m ∧ Iv m' ρ' S', ct := fun ρ' S' => ∃ m', m' < m ∧ Iv m' ρ' S', bk := E.nx } ρ S1
  | false => E.nx ρ S1
theorem as_while {c : Expr} {t : WT} (hp : PassesOwn (model X.prog X.w) X.A X.env X.xe) (hc : AT B X c t) (hb : ASs B X sts wb) : AS B X (.While c sts [] pos) (wWhile t wb) :=
  PS.weak (ps_while hp hc hb) fun D σ H ⟨ρ, S, E, R, ⟨Iv, ⟨m0, h0⟩, turn⟩, im⟩ => by
    refine ⟨fun m σ' H' => ∃ ρ' S', Rel B ρ' S' σ' H' ∧ Step S H S' H' ∧ Iv m ρ' S', ⟨m0, ρ, S, R, Step.refl, h0⟩, ?_⟩
    rintro m σ' H' ⟨ρ', S', R', st', iv⟩
    refine ⟨ρ', S', _, R', turn m ρ' S' iv, fun b H1 S1 s1 ok1 q1 => ?_⟩
    cases b with
    | true =>
      rw [if_pos rfl]
      refine ⟨fun σ2 H2 => ∃ m', m' < m ∧ ∃ ρ2 S2, Rel B ρ2 S2 σ2 H2 ∧ Step S H S2 H2 ∧ Iv m' ρ2 S2, fun σ2 H2 ⟨m', hm, z⟩ => ⟨m', hm, z⟩, ρ', S1, _, R'.step s1 ok1, q1, ?_⟩
      have s01 := st'.trans s1
      exact ⟨fun ρ4 S4 σ4 H4 s4 R4 ⟨m', hm, q4⟩ => ⟨m', hm, ρ4, S4, R4, s01.trans s4, q4⟩, fun d S4 v H4 s4 ok4 r4 q4 => im.rt d S4 v H4 (s01.trans s4) ok4 r4 q4,
        fun ρ4 S4 σ4 H4 s4 R4 q4 => im.nx ρ4 S4 σ4 H4 (s01.trans s4) R4 q4, fun ρ4 S4 σ4 H4 s4 R4 ⟨m', hm, q4⟩ => ⟨m', hm, ρ4, S4, R4, s01.trans s4, q4⟩⟩
    | false =>
      rw [if_neg (by decide)]
      exact im.nx ρ' S1 σ' H1 (st'.trans s1) (R'.step s1 ok1) q1
end
/-! ### list comprehensions -/
def wipeD (ρ : AR) : List Nat → AR
  | [] => ρ
  | v :: vs => (wipeD ρ vs).set v none
theorem Rel.del {B : Bs} {ρ : AR} {S : Store} {σ : St} {H : Hp} (R : Rel B ρ S σ H) (j : Nat) : Rel B (ρ.set j none) S (σ.set j none) H :=
  ⟨R.st, R.ok, by simp [R.len], fun k d' e => by
    by_cases hk : j = k
    · subst hk
      by_cases hl : j < ρ.length
      · rw [List.getElem?_set_self hl] at e
        cases e
      · rw [List.getElem?_eq_none (by rw [List.length_set]; omega)] at e
        cases e
    · rw [List.getElem?_set_ne hk] at e ⊢
      exact R.vs k d' e⟩
theorem Rel.wipe {B : Bs} {ρ : AR} {S : Store} {σ : St} {H : Hp} (R : Rel B ρ S σ H) : ∀ vs, Rel B (wipeD ρ vs) S (L2.wipe σ vs) H
  | [] => R
  | v :: vs => by unfold wipeD L2.wipe; exact (R.wipe vs).del v
/-- the tests of a comprehension -/
def twts (B : Bs) (w : WT) : TT := twt B w
section
variable {B : Bs} {X : Cx} {tg iter elt : Expr} {ifs : List Expr} {scope : Scope} {own : List (Str × Nat)} {p : Pat} {wi : WI} {wt : WT} {we : WE} {pos : Pos}
def wtYes : WT := fun _ S Q => Q true S
theorem PTs.weak {t t' : TT} (h : PTs X ifs t) (i : ∀ σ H K, t' σ H K → t σ H K) : PTs X ifs t' := ⟨fun pins s σ H Q I q => h.run pins s σ H Q I (i _ _ _ q)⟩
abbrev ATs (B : Bs) (X : Cx) (ifs : List Expr) (w : WT) : Prop := PTs X ifs (twt B w)
theorem ats_nil : ATs B X [] wtYes := PTs.weak pts_nil fun σ H K ⟨ρ, S, Q, R, q, k⟩ => k true H S Step.refl R.ok q
theorem ats_one {c : Expr} {t : WT} (h : AT B X c t) : ATs B X [c] t := pts_one h
theorem wipe_twice {σ : St} : ∀ vs : List Nat, L2.wipe (L2.wipe σ vs) vs = L2.wipe σ vs
  | [] => rfl
  | v :: vs => by
    show L2.wipe ((L2.wipe σ vs).set v none) (v :: vs) = (L2.wipe σ vs).set v none
    rw [wipe_set (List.mem_cons_self ..)]
    show (L2.wipe (L2.wipe σ vs) vs).set v none = _
    rw [wipe_twice vs]
/-- the store with the list that is being made -/
abbrev hd (S : Store) (a : Addr) (us : List V) : Store := sup S a (.hid us)
/-- m: the new list is a cell -/
def wLc (m : Bool) (wi : WI) (p : Pat) (wt : WT) (we : WE) (vs : List Nat) : WE := fun ρ S Q => wi ρ S fun ds kp S1 => ∃ Iv : Nat → List D → Store → Prop, Iv 0 [] S1 ∧ (∀ i acc S a us, i ≤ ds.length → S a = none → Iv i acc S → kp (hd S a us)) ∧
  (∀ i d acc S a us, ds[i]? = some d → S a = none → Iv i acc S → ∃ ρ', patW p d (wipeD ρ vs) = some ρ' ∧ wt ρ' (hd S a us) fun b S2 => match b with
    | true => we ρ' S2 fun y S3 => ∃ S4, S3 = hd S4 a us ∧ S4 a = none ∧ Iv (i + 1) (acc ++ [y]) S4
    | false => ∃ S4, S2 = hd S4 a us ∧ S4 a = none ∧ Iv (i + 1) acc S4) ∧ ds.length ≤ sizeLine ∧ ∀ acc S, Iv ds.length acc S → newL m acc S Q
theorem hd_del {S : Store} {a : Addr} {us : List V} (h : S a = none) : sdel (hd S a us) a = S := sdel_sup h
theorem lc_ok {m : Bool} {vs : List Nat} (hk : X.K = B.K.K) (hv : ∀ j ∈ patI p, j ∈ vs) : ∀ σ H K, tw B (wLc m wi p wt we vs) σ H K → tLc (twi B wi) (patG X.K p) (twt B wt) (tw B we) vs σ H K := fun σ H K ⟨ρ, S, Q, R, q, k⟩ => ⟨ρ, S, _, R, q, fun J ds kp H1 S1 st1 ok1 it ⟨Iv, h0, hkp, hturn, hz, hend⟩ DD hD => by
    have nD := ok1.new hD
    have R1 := R.step st1 ok1
    refine ⟨fun i mm H' => ∃ S' acc us, mm = ds.length - i ∧ i ≤ ds.length ∧ Step S1 H1 (hd S' DD us) H' ∧ Ok B.K (hd S' DD us) H' ∧ S' DD = none ∧ Rps B.K (hd S' DD us) H' acc us ∧ acc.length ≤ i ∧ Iv i acc S',
      ⟨ds.length, S1, [], [], by simp, Nat.zero_le _, step_cell ok1 hD, ok_cell ok1 hD (Nat.zero_le _) upd_same, nD, Rps.nil, Nat.zero_le _, h0⟩, ?_⟩
    rintro i mm H' ⟨S', acc, us, rfl, hi', st', ok', nD', ra, hl, iv⟩
    obtain ⟨it1, it2⟩ := it _ H' st' ok' (hkp i acc S' DD us hi' nD' iv)
    by_cases hlt : i < ds.length
    · obtain ⟨go, yl⟩ := it1 i ds[i] (by simp [hlt])
      refine .inr ⟨go, fun H2 => ∃ S2 acc us, Step S1 H1 (hd S2 DD us) H2 ∧ Ok B.K (hd S2 DD us) H2 ∧ S2 DD = none ∧ Rps B.K (hd S2 DD us) H2 acc us ∧ acc.length ≤ i + 1 ∧ Iv (i + 1) acc S2,
        fun H2 ⟨S2, acc2, us2, a1, a2, a3, a4, a5, a6⟩ => ⟨ds.length - (i + 1), by omega, S2, acc2, us2, rfl, hlt, a1, a2, a3, a4, a5, a6⟩, fun x Hx hx => ?_⟩
      obtain ⟨sx, okx, rx⟩ := yl x Hx hx
      obtain ⟨ρ3, hp3, q3⟩ := hturn i ds[i] acc S' DD us (by simp [hlt]) nD' iv
      have Rx := ((R1.step st' ok').step sx okx).wipe vs
      refine pat_ok hk Rx rx hp3 fun σ3 R3 hw => ⟨?_, ρ3, _, _, R3, q3, fun b H4 S4 s4 ok4 q4 => ?_⟩
      · rw [hw _ hv, wipe_twice]
      · have s14 := (st'.trans sx).trans s4
        have ra4 := (Rps.step sx ra).step s4
        cases b with
        | false =>
          refine iteF ?_
          obtain ⟨S5, rfl, n5, iv5⟩ := q4
          exact ⟨S5, acc, us, s14, ok4, n5, ra4, by omega, iv5⟩
        | true =>
          refine iteT ?_
          refine ⟨ρ3, S4, _, R3.step s4 ok4, q4, fun y H5 f S5 s5 ok5 r5 q5 => ?_⟩
          obtain ⟨S6, rfl, n6, iv6⟩ := q5
          have hD5 : H5 DD = some (.lst us) := ok5.c DD _ sup_same
          have ll := ra.length
          have hz' : (us ++ [y]).length ≤ sizeLine := by rw [List.length_append, List.length_singleton]; omega
          have sp : Step (hd S6 DD us) H5 (hd S6 DD (us ++ [y])) (upd H5 DD (.lst (us ++ [y]))) := by
            have z := step_put (S := hd S6 DD us) (H := H5) (p := DD) (o := .lst (us ++ [y])) (c := .hid (us ++ [y])) (d := .hid us) sup_same
            rw [sup_sup] at z
            exact z
          have okp : Ok B.K (hd S6 DD (us ++ [y])) (upd H5 DD (.lst (us ++ [y]))) := by
            have z := ok_put (S := hd S6 DD us) ok5 (p := DD) (o := .lst (us ++ [y])) (c := .hid (us ++ [y])) (d := .hid us) sup_same hz' upd_same
            rw [sup_sup] at z
            exact z
          exact ⟨us, hD5, by omega, S6, acc ++ [f], us ++ [y], (s14.trans s5).trans sp, okp, n6, Rps.step sp ((ra4.step s5).append (Rps.cons r5 Rps.nil)),
            by rw [List.length_append, List.length_singleton]; omega, iv6⟩
    · have e : i = ds.length := by omega
      subst e
      refine .inl ⟨it2 _ (Nat.le_refl _), ?_⟩
      have hD' : H' DD = some (.lst us) := ok'.c DD _ sup_same
      have sd : Step (hd S' DD us) H' S' H' := by
        have z := step_del (S := hd S' DD us) (H := H') (p := DD)
        rw [hd_del nD'] at z
        exact z
      have okd : Ok B.K S' H' := by
        have z := ok_del ok' (p := DD)
        rw [hd_del nD'] at z
        exact z
      have s1 := (st1.trans st').trans sd
      have fin := hend acc S' iv
      cases m with
      | false => exact k _ H' _ S' s1 okd (rp_lst nD' hD' (Rps.step sd ra)) fin
      | true =>
        have sc : Step (hd S' DD us) H' (sup S' DD (.lst acc)) H' := fun a o h1 h2 => by
          have h3 : sup S' DD (.hid us) a = none := h1
          have ne : a ≠ DD := fun e => by subst e; rw [sup_same] at h3; cases h3
          rw [sup_ne ne] at h3 ⊢
          exact ⟨h3, h2⟩
        have okc : Ok B.K (sup S' DD (.lst acc)) H' := ⟨fun a c e => by
          by_cases ha : a = DD
          · subst ha
            rw [sup_same] at e
            cases e
            exact ⟨us, hD', Rps.step sc ra⟩
          · rw [sup_ne ha] at e
            exact COk.move sc (fun _ q => q) (ok'.c a c (show sup S' DD (.hid us) a = some c by rw [sup_ne ha]; exact e)), ok'.z⟩
        exact k _ H' _ _ ((st1.trans st').trans sc) okc rp_ref (fin DD nD')⟩
theorem ae_lc {m : Bool} (hc : X.calm = true) (hN : X.N.Nodup) (hk : X.K = B.K.K) (hi : AI B X tg iter wi) (ok : BlkOk X.N X.env.scope scope own) (hv : ∀ j ∈ patI p, j ∈ own.map (·.2))
    (hg : ∀ (s : Shared) (H : Hp) (C : Addr) (cl : List (Str × Addr)) (fp : List Addr), PG (X.blk s H scope (compEnvC scope cl C X.env) fp) tg (patG X.K p))
    (ht : ∀ (s : Shared) (H : Hp) (C : Addr) (cl : List (Str × Addr)) (fp : List Addr), ATs B (X.blk s H scope (compEnvC scope cl C X.env) fp) ifs wt)
    (he : ∀ (s : Shared) (H : Hp) (C : Addr) (cl : List (Str × Addr)) (fp : List Addr), AE B (X.blk s H scope (compEnvC scope cl C X.env) fp) elt we) (hs : ∀ x, foldedSetIterable iter X.env x = pure x := by intro _; rfl) :
    AE B X (.ListComp elt [⟨tg, iter, ifs, 0⟩] scope pos) (wLc m wi p wt we (own.map (·.2))) :=
  PE.weak (pe_lc hc hN hi ok hg ht he hs) (lc_ok hk hv)
/-- name = [..] on one line -/
theorem as_setLc {w : Bool → WE} {j : Nat} {y : Str} {py spos : Pos} (hc : X.calm = true) (hN : X.N.Nodup) (hy : X.N[j]? = some y) (hyl : X.env.scope.names.lookup y = some .local) (hkd : X.env.scope.kind = .function) (hln : (py.line == pos.line) = true)
    (han : (scope.names.any fun (n, k) => n == y && (k == .local || k == .cell)) = false) (hk : X.K = B.K.K) (hi : AI B X tg iter wi) (ok : BlkOk X.N X.env.scope scope own) (hv : ∀ j ∈ patI p, j ∈ own.map (·.2)) (hw : ∀ m, w m = wLc m wi p wt we (own.map (·.2)))
    (hg : ∀ (s : Shared) (H : Hp) (C : Addr) (cl : List (Str × Addr)) (fp : List Addr), PG (X.blk s H scope (compEnvC scope cl C X.env) fp) tg (patG X.K p))
    (ht : ∀ (s : Shared) (H : Hp) (C : Addr) (cl : List (Str × Addr)) (fp : List Addr), ATs B (X.blk s H scope (compEnvC scope cl C X.env) fp) ifs wt)
    (he : ∀ (s : Shared) (H : Hp) (C : Addr) (cl : List (Str × Addr)) (fp : List Addr), AE B (X.blk s H scope (compEnvC scope cl C X.env) fp) elt we) (hs : ∀ x, foldedSetIterable iter X.env x = pure x := by intro _; rfl) :
    AS B X (.Assign [.Name y py] (.ListComp elt [⟨tg, iter, ifs, 0⟩] scope pos) spos) (wSet j fun ρ S Q => ∃ m, w m ρ S Q) :=
  PS.weak (ps_setLc hc hN hy hyl (sw_true hkd hyl hln han) hi ok hg ht he hs) fun D σ H ⟨ρ, S, E, R, ⟨m, q⟩, i⟩ => by
    rw [hw] at q
    exact lc_ok hk hv σ H _ ⟨ρ, S, _, R, q, fun v H1 d S1 s ok rd q1 => i.nx _ S1 _ H1 s ((R.step s ok).set rd j) q1⟩
end
end KR
set_option Elab.async false
set_option linter.all false
set_option maxRecDepth 100000
namespace KR
open PySem PySem.Spec PyProof.Rows L2
/-! ### a cell given up: told as a tree from here on -/
section
variable {B : Bs} {X : Cx} {e o : Expr} {we wo : WE} {pos : Pos}
def frz1 (d : D) (S : Store) (Q : VQ) : Prop := ∃ a, d = .ref a ∧ ((∃ xs, S a = some (.lst xs) ∧ Q (.lst xs) (sdel S a)) ∨ (∃ C fs, S a = some (.ins C fs) ∧ Q (.ins C fs) (sdel S a)) ∨ ∃ kvs, S a = some (.dN kvs) ∧ Q (.dN kvs) (sdel S a))
def wFrz (we : WE) : WE := fun ρ S Q => we ρ S fun d S1 => frz1 d S1 Q
theorem frz1_ok {K : Kx} {S : Store} {H : Hp} {d : D} {v : V} {Q : VQ} {k : VK} (ok : Ok K S H) (rd : Rp K S H d v) (h : frz1 d S Q) (hk : KK K S H Q k) : k v H := by
  obtain ⟨a, rfl, h⟩ := h
  have st := step_del (S := S) (H := H) (p := a)
  have okd := ok_del ok (p := a)
  rw [of_ref rd]
  rcases h with ⟨xs, hs, q⟩ | ⟨C, fs, hs, q⟩ | ⟨kvs, hs, q⟩
  · obtain ⟨vs, hh, r⟩ := ok.c a _ hs
    exact hk _ H _ _ st okd (rp_lst sdel_same hh (Rps.step st r)) q
  · obtain ⟨dx, r, hh, rr⟩ := ok.c a _ hs
    exact hk _ H (.ins C fs) _ st okd (by unfold Rp; exact ⟨a, dx, r, rfl, sdel_same, hh, RpF.step st rr⟩) q
  · obtain ⟨o, es, ep, xs, hh, e1, e2, e3, e4, e5, e6, rr⟩ := ok.c a _ hs
    exact hk _ H (.dN kvs) _ st okd (by unfold Rp; exact ⟨a, o, es, ep, xs, rfl, sdel_same, hh, e1, e2, e3, e4, e5, e6, RpN.step st rr⟩) q
theorem ae_frz (he : AE B X e we) : AE B X e (wFrz we) := PE.weak he fun σ H K ⟨ρ, S, Q, R, q, k⟩ => ⟨ρ, S, _, R, q, fun v H1 d S1 st ok rd q1 => frz1_ok ok rd q1 (k.back st)⟩
/-- .. of a dict: it is locked for good -/
def tFz (t : TE) : TE := fun σ H Q => t σ H fun v H1 => ∃ d u, v = .ref d ∧ H1 d = some u ∧ Mut (some u) ∧ ∀ od, Q v (upd H1 d (.frz od u))
theorem pe_fz {t : TE} (h : PE X e t) : PE X e (tFz t) := by
  refine ⟨fun pins s σ H Q I hw => thn (h.run pins s σ H _ I hw) fun v s1 ⟨x, H1, I1, r, d, u, ex, hd, mu, q⟩ => ?_⟩
  obtain ⟨od, I2⟩ := I1.lock hd mu
  exact ⟨x, _, I2, r, q od⟩
def frzD (d : D) (S : Store) (Q : VQ) : Prop := ∃ a, d = .ref a ∧ ((∃ kvs, S a = some (.dK kvs) ∧ Q (.dK kvs) (sdel S a)) ∨ ∃ kvs, S a = some (.dT kvs) ∧ Q (.dT kvs) (sdel S a))
def wFrzD (we : WE) : WE := fun ρ S Q => we ρ S fun d S1 => frzD d S1 Q
theorem ok_lock {K : Kx} {S : Store} {H : Hp} {a : Addr} {c : Cell} {o : HO} (ok : Ok K S H) (h : S a = some c) (hz : SzO o) : Step S H (sdel S a) (upd H a o) ∧ Ok K (sdel S a) (upd H a o) := by
  have st : Step S H (sdel S a) (upd H a o) := fun b u h1 h2 => by
    have ne : b ≠ a := fun e => by subst e; rw [h] at h1; cases h1
    exact ⟨by rw [sdel_ne ne]; exact h1, by rw [upd_ne ne]; exact h2⟩
  refine ⟨st, fun b c' e => ?_, ok.z.put hz⟩
  have ne : b ≠ a := fun e' => by subst e'; rw [sdel_same] at e; cases e
  rw [sdel_ne ne] at e
  exact COk.move st (fun u q => by rw [upd_ne ne]; exact q) (ok.c b c' e)
theorem ae_frzD (he : AE B X e we) : AE B X e (wFrzD we) := PE.weak (pe_fz he) fun σ H K ⟨ρ, S, Q, R, q, k⟩ => ⟨ρ, S, _, R, q, fun v H1 d S1 st ok rd q1 => by
  obtain ⟨a, rfl, h⟩ := q1
  rw [of_ref rd]
  rcases h with ⟨kvs, hs, q1⟩ | ⟨kvs, hs, q1⟩
  · obtain ⟨r, hh, rr⟩ := ok.c a _ hs
    refine ⟨a, _, rfl, hh, True.intro, fun od => ?_⟩
    obtain ⟨st2, ok2⟩ := ok_lock ok hs (o := .frz od (.dK r)) True.intro
    exact k _ _ (.dK kvs) _ (st.trans st2) ok2 (by unfold Rp; exact ⟨a, od, r, rfl, sdel_same, upd_same, RpK.step st2 rr⟩) q1
  · obtain ⟨r, hh, rr⟩ := ok.c a _ hs
    refine ⟨a, _, rfl, hh, True.intro, fun od => ?_⟩
    obtain ⟨st2, ok2⟩ := ok_lock ok hs (o := .frz od (.dT r)) True.intro
    exact k _ _ (.dT kvs) _ (st.trans st2) ok2 (by unfold Rp; exact ⟨a, od, r, rfl, sdel_same, upd_same, RpT.step st2 rr⟩) q1⟩
/-! ### attributes -/
def FldOk (K : PySem.W.Frag) (C : Addr) (f : Str) : Prop := Cls K C ∧ NoAttr K C f
def wGet (K : Kx) (f : Str) (we : WE) : WE := fun ρ S Q => we ρ S fun x S1 => ∃ C fs d, asI S1 x = some (C, fs) ∧ FldOk K.K C f ∧ fs.lookup f = some d ∧ Q d S1
theorem RA.lookup {K : Kx} {S : Store} {H : Hp} {f : Str} {d : D} : ∀ {fs : List (Str × D)} {r : List (Str × V)}, RA K S H fs r → fs.lookup f = some d → ∃ v, r.lookup f = some v ∧ Rp K S H d v
  | [], _, _, e => by cases e
  | (g, d') :: fs, _, h, e => by
    unfold RA at h
    obtain ⟨v, r', rfl, h1, h2⟩ := h
    rw [List.lookup_cons] at e ⊢
    cases hg : f == g with
    | true => rw [hg] at e; cases e; exact ⟨v, rfl, h1⟩
    | false => rw [hg] at e; exact RA.lookup h2 e
theorem RA.lookup_none {K : Kx} {S : Store} {H : Hp} {f : Str} : ∀ {fs : List (Str × D)} {r : List (Str × V)}, RA K S H fs r → fs.lookup f = none → r.lookup f = none
  | [], _, h, _ => by unfold RA at h; subst h; rfl
  | (g, d') :: fs, _, h, e => by
    unfold RA at h
    obtain ⟨v, r', rfl, h1, h2⟩ := h
    rw [List.lookup_cons] at e ⊢
    cases hg : f == g with
    | true => rw [hg] at e; cases e
    | false => rw [hg] at e; exact RA.lookup_none h2 e
theorem ae_fld {f : Str} (hk : X.K = B.K.K) (he : AE B X e we) (hb : attributeBase e f X.env (eval e X.env) = eval e X.env := by rfl) : AE B X (.Attribute e f pos) (wGet B.K f we) :=
  PE.weak (pe_fld he hb) fun σ H K ⟨ρ, S, Q, R, q, k⟩ => ⟨ρ, S, _, R, q, fun v H1 d S1 st ok rd ⟨C, fs, d', hi, ⟨c1, c2⟩, hl, q1⟩ => by
    obtain ⟨a, dx, r, rfl, hh, rr⟩ := asI_ok ok rd hi
    obtain ⟨v', hv, rv⟩ := RA.lookup (RpF_iff.mp rr) hl
    exact ⟨a, C, dx, r, v', rfl, hh, by rw [hk]; exact c1, by rw [hk]; exact c2, hv, (k.back st).here ok rv q1⟩⟩
def putFD (f : Str) (v : D) : List (Str × D) → List (Str × D)
  | [] => [(f, v)]
  | (g, w) :: r => if g = f then (g, v) :: r else (g, w) :: putFD f v r
end
end KR
set_option Elab.async false
set_option linter.all false
set_option maxRecDepth 100000
namespace KR
open PySem PySem.Spec PyProof.Rows L2
/-! ### storing an attribute -/
section
variable {B : Bs} {X : Cx} {e o : Expr} {we wo : WE} {pos pos' : Pos}
theorem RA.putF {K : Kx} {S : Store} {H : Hp} {f : Str} {d : D} {v : V} (hv : Rp K S H d v) : ∀ {fs : List (Str × D)} {r : List (Str × V)}, RA K S H fs r → RA K S H (putFD f d fs) (L2.putF f v r)
  | [], _, h => by
    unfold RA at h; subst h
    show RA K S H [(f, d)] [(f, v)]
    unfold RA; exact ⟨v, [], rfl, hv, by unfold RA; rfl⟩
  | (g, d') :: fs, _, h => by
    unfold RA at h
    obtain ⟨u, r', rfl, h1, h2⟩ := h
    show RA K S H (if g = f then (g, d) :: fs else (g, d') :: putFD f d fs) (if g = f then (g, v) :: r' else (g, u) :: L2.putF f v r')
    by_cases e : g = f
    · rw [if_pos e, if_pos e]; unfold RA; exact ⟨v, r', rfl, hv, h2⟩
    · rw [if_neg e, if_neg e]; unfold RA; exact ⟨u, _, rfl, h1, RA.putF hv h2⟩
def wFld (K : Kx) (f : Str) (wo wv : WE) : WS := fun E ρ S => wv ρ S fun y S1 => wo ρ S1 fun x S2 => ∃ a C fs, x = .ref a ∧ S2 a = some (.ins C fs) ∧ FldOk K.K C f ∧ fs.length < 1000 ∧ E.nx ρ (sup S2 a (.ins C (putFD f y fs)))
theorem as_fld {f : Str} (hk : X.K = B.K.K) (ho : AE B X o wo) (hv : AE B X e we) (hs : swapsWith e (some (.Attribute o f pos')) pos.line X.env = pure false := by rfl) : AS B X (.Assign [.Attribute o f pos'] e pos) (wFld B.K f wo we) :=
  PS.weak (ps_fld ho hv hs) fun D σ H ⟨ρ, S, E, R, q, im⟩ => ⟨ρ, S, _, R, q, fun v H1 d S1 st1 ok1 r1 q1 => ⟨ρ, S1, _, R.step st1 ok1, q1, fun x H2 dx S2 st2 ok2 r2 ⟨a, C, fs, ex, hS, ⟨c1, c2⟩, hl, q2⟩ => by
    subst ex
    obtain ⟨dd, r, hh, rr⟩ := ok2.c a _ hS
    have ra := RpF_iff.mp rr
    have st := step_put (o := .ins C dd (L2.putF f v r)) (c := .ins C (putFD f d fs)) (H := H2) hS
    have okn := ok_put ok2 hS (o := .ins C dd (L2.putF f v r)) (c := .ins C (putFD f d fs)) True.intro ⟨dd, _, upd_same, RpF.step st (RpF_iff.mpr (ra.putF (r1.step st2)))⟩
    exact ⟨a, C, dd, r, of_ref r2, hh, by rw [hk]; exact c1, by rw [hk]; exact c2, by rw [← ra.length]; exact hl, im.nx ρ _ σ _ ((st1.trans st2).trans st) (((R.step st1 ok1).step st2 ok2).step st okn) q2⟩⟩⟩
end
/-! ### what a def promises -/
/-- what an exception bears: nothing of its own, or one field -/
abbrev Pl := Option (Str × D)
def PlR (K : Kx) (S : Store) (H : Hp) : Pl → Option Addr → Prop
  | none, dx => dx = none
  | some (f, d), dx => ∃ a v, dx = some a ∧ S a = none ∧ H a = some (.xd [(f, v)]) ∧ Rp K S H d v
theorem PlR.step {K : Kx} {S S' : Store} {H H' : Hp} (st : Step S H S' H') {p : Pl} {dx : Option Addr} (h : PlR K S H p dx) : PlR K S' H' p dx := by
  cases p with
  | none => exact h
  | some q =>
    obtain ⟨f, d⟩ := q
    obtain ⟨a, v, e, hs, hh, r⟩ := h
    exact ⟨a, v, e, (st a _ hs hh).1, (st a _ hs hh).2, r.step st⟩
abbrev EQ := Value → Pl → Store → Prop
abbrev ASp := List D → Store → VQ → EQ → Prop
def toSp (K : Kx) (A : ASp) : Sp := fun vs H Q E => ∃ ds S Qa Ea, Ok K S H ∧ Rps K S H ds vs ∧ A ds S Qa Ea ∧ KK K S H Qa Q ∧ ∀ cls pl dx S' H', Step S H S' H' → Ok K S' H' → PlR K S' H' pl dx → Ea cls pl S' → E cls dx H'
/-- what is wanted of an exception, at the slots -/
abbrev XQ := Value → Pl → AR → Store → Prop
def Xc (B : Bs) (X : Cx) (Wx : XQ) : Prop := ∃ W : WX, Takes X W ∧ ∀ cls pl dx ρ S σ H, Rel B ρ S σ H → PlR B.K S H pl dx → Wx cls pl ρ S → W cls dx σ H
def X0 : XQ := fun _ _ _ _ => False
theorem xc0 {B : Bs} {X : Cx} : Xc B X X0 := ⟨fun _ _ _ _ => False, fun _ _ ⟨_, _, _, _, _, _, _, _, _, _, _, _, _, _, _, _, h⟩ => h.elim, fun _ _ _ _ _ _ _ _ _ h => h⟩
def startD (N : List Str) (ds : List D) : AR := ds.map some ++ List.replicate (N.length - ds.length) none
theorem start_get {α : Type} {N : Nat} {xs : List α} {i : Nat} {d : α} (h : (xs.map some ++ List.replicate N none)[i]? = some (some d)) : xs[i]? = some d := by
  by_cases hi : i < xs.length
  · rw [List.getElem?_append_left (by rw [List.length_map]; exact hi), List.getElem?_map] at h
    cases e : xs[i]? with
    | none => rw [e] at h; cases h
    | some x => rw [e] at h; cases h; rfl
  · rw [List.getElem?_append_right (by rw [List.length_map]; omega)] at h
    by_cases hj : i - (xs.map some).length < N
    · rw [List.getElem?_replicate_of_lt hj] at h; cases h
    · rw [List.getElem?_eq_none (by simp at hj ⊢; omega)] at h; cases h
theorem rel_start {K : Kx} {N : List Str} {ds : List D} {vs : List V} {S : Store} {H : Hp} (ok : Ok K S H) (r : Rps K S H ds vs) : Rel ⟨K, S, H⟩ (startD N ds) S (L2.start N vs) H :=
  ⟨Step.refl, ok, by unfold startD L2.start; simp [r.length], fun i d e => by
    have e1 := start_get e
    obtain ⟨v, hv, rv⟩ := r.get e1
    refine ⟨v, ?_, rv⟩
    unfold L2.start
    have hi := (List.getElem?_eq_some_iff.mp hv).1
    rw [List.getElem?_append_left (by rw [List.length_map]; exact hi), List.getElem?_map, hv]
    rfl⟩
section
variable {K : Kx} {mg : Str → Option Value} {base : Heap} {x qual : Str} {params : Arguments} {body : List Stmt} {scope : Scope} {dvs : List V} {kws : List (Str × V)} {f : Addr} {fd : FuncData}
/-- the context of a def's body -/
abbrev cxD (K : Kx) (mg : Str → Option Value) (base : Heap) (N : List Str) (qual : Str) (scope : Scope) (f : Addr) (cdv : Value) (A : Around) (outer : List Env) (s : Shared) (H : Hp) (E : XK) : Cx :=
  cxOf (L2.CX K.P K.w) K.P K.w K.K mg base N qual scope f cdv A outer s H E
/-- THE RULE for a def -/
theorem fn_ok {N ps : List Str} {k : Nat} {A : ASp} (F : FunD K.K x qual params body scope dvs kws f fd) (Sc : FnScope N ps scope) (len : ∀ ds S Q E, A ds S Q E → ds.length = ps.length)
    (hb : ∀ (cdv : Value) (A0 : Around) (outer : List Env) (s : Shared) (H : Hp) (E : XK), Room k (A0.deeper (envOfC qual scope s.heap.objs.size f cdv)) → ∀ (ds : List D) (S : Store) (Qa : VQ) (Ea : EQ), Ok K S H → A ds S Qa Ea →
      Xc ⟨K, S, H⟩ (cxD K mg base N qual scope f cdv A0 outer s H E) (fun c p _ S' => Ea c p S') →
      ∃ w, ASs ⟨K, S, H⟩ (cxD K mg base N qual scope f cdv A0 outer s H E) body w ∧ w { nx := fun _ S' => Qa .non S', rt := Qa } (startD N ds) S) :
    FnOk K.P K.w K.K mg base (L2.CX K.P K.w) (k + 1) f fd ps (toSp K A) := by
  refine F.ok Sc (fun vs H Q E ⟨ds, S, Qa, Ea, ok, r, h, _, _⟩ => by rw [← r.length]; exact len _ _ _ _ h) fun cdv A0 outer s H vs Q E hr ⟨ds, S, Qa, Ea, ok, r, h, kk, ke⟩ => ?_
  obtain ⟨w, hw, q⟩ := hb cdv A0 outer s H E hr ds S Qa Ea ok h ⟨fun cls dx _ H' => E cls dx H', takes_of rfl rfl rfl rfl, fun cls pl dx ρ S' σ H' R hp hE => ke cls pl dx S' H' R.st R.ok hp hE⟩
  exact ⟨_, hw, startD N ds, S, _, rel_start ok r, q, fun ρ' S' σ' H' st R q' => kk _ H' _ S' st R.ok rp_non q', fun d S' v H' st ok' rd q' => kk v H' d S' st ok' rd q', fun _ _ _ _ _ _ z => z, fun _ _ _ _ _ _ z => z⟩
end
/-! ### calls -/
section
variable {B : Bs} {X : Cx} {k : Nat} {f C : Addr} {fd : FuncData} {ps : List Str} {A : ASp} {x m : Str} {p pos apos : Pos} {e o : Expr} {es : List Expr} {wo : WE} {wa : WA} {Wx : XQ} {dvs : List V} {ds : List Value} {dds : List D}
theorem run_fnX {CX : CXT} {sp : Sp} {E : L2.St → XK} {pins : List (Addr × Obj)} {σ : L2.St} {H : Hp} {s : Shared} {Q : VK} {us : List Value} {vs : List V} (F : FnOk X.prog X.w X.K X.mg X.base CX k f fd ps sp) (hr : Room k X.A) (hb : Binds X.K fd ps ds) (hd : Vals dvs ds) (hx : PassesAt CX X σ (E σ))
    (I : Inv X pins σ H s) (r : Vals vs us) (h : sp (vs ++ dvs) H Q (E σ)) : wpAny (model X.prog X.w) X.A (call (.ref f) us) (EP X pins σ Q) X.xe s := by
  have r2 : Vals (vs ++ dvs) (us ++ ds) := r.append hd
  have hl : (us ++ ds).length = ps.length := by rw [← r2.length]; exact F.len _ _ _ _ h
  refine wpAny_call (codeAny_mono (F.run X.A X.stack s H ⟨us, []⟩ (us ++ ds) (vs ++ dvs) Q (E σ) hr I.env0 (hb s us I.kIn hl) r2 h) fun r s' hq => ?_)
  cases r with
  | error e => exact hx pins H s e s' I hq
  | ok fl =>
    cases fl with
    | ret u => exact I.after hq
    | next => exact False.elim hq
    | brk => exact False.elim hq
    | cont => exact False.elim hq
def tCallX (sp : Sp) (dvs : List V) (E : L2.St → XK) (t : TA) : TE := fun σ H Q => t σ H fun vs H1 => sp (vs ++ dvs) H1 Q (E σ)
theorem pe_callX {CX : CXT} {sp : Sp} {E : L2.St → XK} {t : TA} (F : FnOk X.prog X.w X.K X.mg X.base CX k f fd ps sp) (hr : Room k X.A) (hg : Gl X x) (hm : X.mg x = some (.ref f)) (hk : PySem.W.keepIn X.K (.ref f) = true) (hb : Binds X.K fd ps ds) (hd : Vals dvs ds) (hx : ∀ σ, PassesAt CX X σ (E σ))
    (ha : PA X (e :: es) t) (hdb : (x == ("__debug__" : Str)) = false := by decide) (he : starEach (e :: es) X.env = (false, eval e X.env) :: starEach es X.env := by rfl) (hpl : (backTo pos (starEach es X.env)).any (·.1) = false := by rfl) :
    PE X (.Call (.Name x p) (e :: es) [] pos) (tCallX sp dvs E t) := by
  refine ⟨fun pins s σ H Q I h => ?_⟩
  refine wpAny_Call_Name_kw (ld_glob I hg hm ?_ hdb)
  refine PySem.W.callWith_K (h₀ := X.base) I.ok.mod.kin hk (thn (ha.run pos pins s σ H _ I h) fun us s1 ⟨vs, H1, I1, r, q⟩ => ⟨I1.kIn, ?_⟩) he hpl
  exact run_fnX F hr hb hd (hx σ) I1 r q
theorem pe_callX0 {CX : CXT} {sp : Sp} {E : L2.St → XK} (F : FnOk X.prog X.w X.K X.mg X.base CX k f fd ps sp) (hr : Room k X.A) (hg : Gl X x) (hm : X.mg x = some (.ref f)) (hk : PySem.W.keepIn X.K (.ref f) = true) (hb : Binds X.K fd ps ds) (hd : Vals dvs ds) (hx : ∀ σ, PassesAt CX X σ (E σ))
    (hdb : (x == ("__debug__" : Str)) = false := by decide) : PE X (.Call (.Name x p) [] [] pos) (tCallX sp dvs E tNil) := by
  refine ⟨fun pins s σ H Q I h => ?_⟩
  refine wpAny_Call_Name_kw (ld_glob I hg hm ?_ hdb)
  exact PySem.W.callWith_K0 I.kIn hk (run_fnX (us := []) F hr hb hd (hx σ) I .nil h)
/-- f(..) -/
def wCall (A : ASp) (dds : List D) (Wx : XQ) (wa : WA) : WE := fun ρ S Q => wa ρ S fun ds S1 => A (ds ++ dds) S1 Q fun c p S' => Wx c p ρ S'
theorem sp_of {K : Kx} {A : ASp} {S S1 : Store} {H H1 : Hp} {vs : List V} {ds : List D} {Q : VQ} {k : VK} {Ea : EQ} {E : XK} (ok : Ok K S1 H1) (r : Rps K S1 H1 ds vs) (h : A ds S1 Q Ea) (hk : KK K S1 H1 Q k)
    (he : ∀ cls pl dx S' H', Step S1 H1 S' H' → Ok K S' H' → PlR K S' H' pl dx → Ea cls pl S' → E cls dx H') : toSp K A vs H1 k E := ⟨ds, S1, Q, Ea, ok, r, h, hk, he⟩
theorem ae_call (hP : X.prog = B.K.P) (hw : X.w = B.K.w) (F : FnOk X.prog X.w X.K X.mg X.base (L2.CX X.prog X.w) k f fd ps (toSp B.K A)) (hr : Room k X.A) (hg : Gl X x) (hm : X.mg x = some (.ref f)) (hk : PySem.W.keepIn X.K (.ref f) = true) (hb : Binds X.K fd ps ds) (hd : Vals dvs ds)
    (hdd : ∀ S H, Rps B.K S H dds dvs) (hx : Xc B X Wx) (ha : AA B X (e :: es) wa) (hdb : (x == ("__debug__" : Str)) = false := by decide) (he : starEach (e :: es) X.env = (false, eval e X.env) :: starEach es X.env := by rfl) (hpl : (backTo pos (starEach es X.env)).any (·.1) = false := by rfl) :
    AE B X (.Call (.Name x p) (e :: es) [] pos) (wCall A dds Wx wa) := by
  obtain ⟨W, tk, hW⟩ := hx
  exact PE.weak (pe_callX F hr hg hm hk hb hd (fun σ => passAt tk σ) ha hdb he hpl) fun σ H K ⟨ρ, S, Q, R, q, k⟩ => ⟨ρ, S, _, R, q, fun vs H1 ds S1 st ok rd q1 =>
    ⟨ds ++ dds, S1, Q, _, ok, rd.append (hdd _ _), q1, k.back st, fun cls pl dx S' H' st' ok' hp hE => hW cls pl dx ρ S' σ H' ((R.step st ok).step st' ok') hp hE⟩⟩
theorem ae_call0 (F : FnOk X.prog X.w X.K X.mg X.base (L2.CX X.prog X.w) k f fd ps (toSp B.K A)) (hr : Room k X.A) (hg : Gl X x) (hm : X.mg x = some (.ref f)) (hk : PySem.W.keepIn X.K (.ref f) = true) (hb : Binds X.K fd ps ds) (hd : Vals dvs ds)
    (hdd : ∀ S H, Rps B.K S H dds dvs) (hx : Xc B X Wx) (hdb : (x == ("__debug__" : Str)) = false := by decide) : AE B X (.Call (.Name x p) [] [] pos) (wCall A dds Wx waNil) := by
  obtain ⟨W, tk, hW⟩ := hx
  exact PE.weak (pe_callX0 F hr hg hm hk hb hd (fun σ => passAt tk σ) hdb) fun σ H K ⟨ρ, S, Q, R, q, k⟩ =>
    ⟨dds, S, Q, _, R.ok, hdd _ _, q, k, fun cls pl dx S' H' st' ok' hp hE => hW cls pl dx ρ S' σ H' (R.step st' ok') hp hE⟩
/-- o.m(..) -/
def tMethX (C : Addr) (m : Str) (sp : Sp) (dvs : List V) (E : L2.St → XK) (ta : TE) (t : TA) : TE := fun σ H Q => ta σ H fun x H1 => ∃ a dx fs, x = .ref a ∧ H1 a = some (.ins C dx fs) ∧ fs.lookup m = none ∧ t σ H1 fun vs H2 => sp (x :: (vs ++ dvs)) H2 Q (E σ)
theorem pe_methX {CX : CXT} {sp : Sp} {E : L2.St → XK} {ta : TE} {t : TA} {pl : Sem Bool} (he : PE X o ta) (c : Cls X.K C) (hm : Meth X.K C m f) (F : FnOk X.prog X.w X.K X.mg X.base CX k f fd ps sp) (hr : Room k X.A) (hb : Binds X.K fd ps ds) (hd : Vals dvs ds) (hx : ∀ σ, PassesAt CX X σ (E σ)) (ha : PA X (e :: es) t)
    (hst : starEach (e :: es) X.env = (false, eval e X.env) :: starEach es X.env := by rfl) (hpl : (backTo pos (starEach es X.env)).any (·.1) = false := by rfl)
    (ht : eval (.Call (.Attribute o m apos) (e :: es) [] pos) X.env = (do
      let ov ← eval o X.env
      standAt apos.atName
      let (f, first) ← holding [ov] (getMethod ov m pl)
      callWith pos f first (backTo pos (starEach (e :: es) X.env)) (backToKw pos (keywordEach [] X.env))) := by rfl) :
    PE X (.Call (.Attribute o m apos) (e :: es) [] pos) (tMethX C m sp dvs E ta t) := by
  refine ⟨fun pins s σ H Q I h => ?_⟩
  refine PySem.W.methodCall_KW (pl := pl) (thn (he.run pins s σ H _ I h) fun u s1 ⟨x, H1, I1, rx, a, dx, fs, ex, ea, l, q⟩ => ?_) ht
  subst ex
  obtain rfl : u = Value.ref a := rx
  refine getmeth_ok I1 ea c hm l ?_
  refine PySem.W.callWith_K (first := [.ref a]) (h₀ := X.base) I.ok.mod.kin hm.kp (thn (ha.run pos pins s1 σ H1 _ I1 q) fun us s2 ⟨vs, H2, I2, r, q2⟩ => ⟨I2.kIn, ?_⟩) hst hpl
  exact run_fnX (us := .ref a :: us) (vs := .ref a :: vs) F hr hb hd (hx σ) I2 (.cons rfl r) q2
theorem pe_methX0 {CX : CXT} {sp : Sp} {E : L2.St → XK} {ta : TE} {pl : Sem Bool} (he : PE X o ta) (c : Cls X.K C) (hm : Meth X.K C m f) (F : FnOk X.prog X.w X.K X.mg X.base CX k f fd ps sp) (hr : Room k X.A) (hb : Binds X.K fd ps ds) (hd : Vals dvs ds) (hx : ∀ σ, PassesAt CX X σ (E σ))
    (ht : eval (.Call (.Attribute o m apos) [] [] pos) X.env = (do
      let ov ← eval o X.env
      standAt apos.atName
      let (f, first) ← holding [ov] (getMethod ov m pl)
      callWith pos f first (backTo pos (starEach [] X.env)) (backToKw pos (keywordEach [] X.env))) := by rfl) :
    PE X (.Call (.Attribute o m apos) [] [] pos) (tMethX C m sp dvs E ta tNil) := by
  refine ⟨fun pins s σ H Q I h => ?_⟩
  refine PySem.W.methodCall_KW (pl := pl) (thn (he.run pins s σ H _ I h) fun u s1 ⟨x, H1, I1, rx, a, dx, fs, ex, ea, l, q⟩ => ?_) ht
  subst ex
  obtain rfl : u = Value.ref a := rx
  refine getmeth_ok I1 ea c hm l ?_
  exact PySem.W.callWith_K0 (first := [.ref a]) I1.kIn hm.kp (run_fnX (us := [.ref a]) (vs := [.ref a]) F hr hb hd (hx σ) I1 (.cons rfl .nil) q)
def wMeth (C : Addr) (m : Str) (A : ASp) (dds : List D) (Wx : XQ) (wo : WE) (wa : WA) : WE := fun ρ S Q => wo ρ S fun x S1 => (∃ fs, asI S1 x = some (C, fs) ∧ fs.lookup m = none) ∧ wa ρ S1 fun ds S2 => A (x :: (ds ++ dds)) S2 Q fun c p S' => Wx c p ρ S'
theorem tw_meth {W : WX} {t : TA} (hW : ∀ cls pl dx ρ S σ H, Rel B ρ S σ H → PlR B.K S H pl dx → Wx cls pl ρ S → W cls dx σ H) (hdd : ∀ S H, Rps B.K S H dds dvs) (ht : ∀ σ H K, twa B wa σ H K → t σ H K) :
    ∀ σ H K, tw B (wMeth C m A dds Wx wo wa) σ H K → tMethX C m (toSp B.K A) dvs (fun σ cls dx H => W cls dx σ H) (tw B wo) t σ H K := fun σ H K ⟨ρ, S, Q, R, q, k⟩ => ⟨ρ, S, _, R, q, fun v H1 d S1 st ok rd ⟨⟨fs, hi, hl⟩, q1⟩ => by
  obtain ⟨a, dx, r, rfl, hh, rr⟩ := asI_ok ok rd hi
  refine ⟨a, dx, r, rfl, hh, RA.lookup_none (RpF_iff.mp rr) hl, ht _ _ _ ⟨ρ, S1, _, R.step st ok, q1, fun vs H2 ds S2 st2 ok2 r2 q2 => ?_⟩⟩
  exact ⟨d :: (ds ++ dds), S2, Q, _, ok2, Rps.cons (rd.step st2) (r2.append (hdd _ _)), q2, (k.back st).back st2, fun cls pl dx S' H' st' ok' hp hE => hW cls pl dx ρ S' σ H' (((R.step st ok).step st2 ok2).step st' ok') hp hE⟩⟩
theorem ae_meth {pl : Sem Bool} (ho : AE B X o wo) (c : Cls X.K C) (hm : Meth X.K C m f) (F : FnOk X.prog X.w X.K X.mg X.base (L2.CX X.prog X.w) k f fd ps (toSp B.K A)) (hr : Room k X.A) (hb : Binds X.K fd ps ds) (hd : Vals dvs ds) (hdd : ∀ S H, Rps B.K S H dds dvs) (hx : Xc B X Wx) (ha : AA B X (e :: es) wa)
    (hst : starEach (e :: es) X.env = (false, eval e X.env) :: starEach es X.env := by rfl) (hpl : (backTo pos (starEach es X.env)).any (·.1) = false := by rfl)
    (ht : eval (.Call (.Attribute o m apos) (e :: es) [] pos) X.env = (do
      let ov ← eval o X.env
      standAt apos.atName
      let (f, first) ← holding [ov] (getMethod ov m pl)
      callWith pos f first (backTo pos (starEach (e :: es) X.env)) (backToKw pos (keywordEach [] X.env))) := by rfl) :
    AE B X (.Call (.Attribute o m apos) (e :: es) [] pos) (wMeth C m A dds Wx wo wa) := by
  obtain ⟨W, tk, hW⟩ := hx
  exact PE.weak (pe_methX ho c hm F hr hb hd (fun σ => passAt tk σ) ha hst hpl ht) (tw_meth hW hdd fun _ _ _ z => z)
theorem ae_meth0 {pl : Sem Bool} (ho : AE B X o wo) (c : Cls X.K C) (hm : Meth X.K C m f) (F : FnOk X.prog X.w X.K X.mg X.base (L2.CX X.prog X.w) k f fd ps (toSp B.K A)) (hr : Room k X.A) (hb : Binds X.K fd ps ds) (hd : Vals dvs ds) (hdd : ∀ S H, Rps B.K S H dds dvs) (hx : Xc B X Wx)
    (ht : eval (.Call (.Attribute o m apos) [] [] pos) X.env = (do
      let ov ← eval o X.env
      standAt apos.atName
      let (f, first) ← holding [ov] (getMethod ov m pl)
      callWith pos f first (backTo pos (starEach [] X.env)) (backToKw pos (keywordEach [] X.env))) := by rfl) :
    AE B X (.Call (.Attribute o m apos) [] [] pos) (wMeth C m A dds Wx wo waNil) := by
  obtain ⟨W, tk, hW⟩ := hx
  exact PE.weak (pe_methX0 ho c hm F hr hb hd (fun σ => passAt tk σ) ht) (tw_meth hW hdd fun σ H K ⟨ρ, S, Q, R, q, k⟩ => k [] H [] S Step.refl R.ok Rps.nil q)
/-- C(..): a new instance, then __init__ (which raises nothing) -/
def wMake (C : Addr) (A : ASp) (dds : List D) (wa : WA) : WE := fun ρ S Q => wa ρ S fun ds S1 => ∀ x, S1 x = none → A (.ref x :: (ds ++ dds)) (sup S1 x (.ins C [])) (fun d S2 => d = .non ∧ Q (.ref x) S2) fun _ _ _ => False
theorem tw_make {t : TA} (hdd : ∀ S H, Rps B.K S H dds dvs) (ht : ∀ σ H K, twa B wa σ H K → t σ H K) : ∀ σ H K, tw B (wMake C A dds wa) σ H K → tMake C (toSp B.K A) dvs (fun _ _ _ => False) t σ H K := fun σ H K ⟨ρ, S, Q, R, q, k⟩ =>
  ht _ _ _ ⟨ρ, S, _, R, q, fun vs H1 ds S1 st ok rd q1 x dx hx hdx hne => by
    have sx := ok.new hx
    have s1 : Step S1 H1 S1 (upd H1 dx (.own x)) := step_new ok hdx
    have ok1 : Ok B.K S1 (upd H1 dx (.own x)) := ok_new ok hdx True.intro
    have hx1 : upd H1 dx (.own x) x = none := by rw [upd_ne (Ne.symm hne)]; exact hx
    have s2 := step_cell ok1 hx1 (o := .ins C dx []) (c := .ins C [])
    have ok2 := ok_cell ok1 hx1 (o := .ins C dx []) (c := .ins C []) True.intro ⟨dx, [], upd_same, by unfold RpF; rfl⟩
    have s12 := s1.trans s2
    refine ⟨.ref x :: (ds ++ dds), _, _, _, ok2, Rps.cons rp_ref ((Rps.step s12 rd).append (hdd _ _)), q1 x sx, fun v H' d S' st' ok' rd' ⟨e, q'⟩ => ?_, fun _ _ _ _ _ _ _ _ z => z⟩
    subst e
    exact ⟨of_non rd', k _ H' _ S' ((st.trans s12).trans st') ok' rp_ref q'⟩⟩
theorem passes0 {CX' : CXT} {P : Program} {w : World} (h : CX' = L2.CX P w) : Passes CX' X (fun _ _ _ => False) := fun _ _ _ _ _ _ _ c => by
  subst h
  obtain ⟨_, _, _, _, _, _, _, _, _, _, _, _, z⟩ := c
  exact z.elim
theorem ae_make (M : Mk X.K C f) (F : FnOk X.prog X.w X.K X.mg X.base (L2.CX X.prog X.w) k f fd ps (toSp B.K A)) (hr : Room (k + 1) X.A) (hg : Gl X x) (hm : X.mg x = some (.ref C)) (hb : Binds X.K fd ps ds) (hd : Vals dvs ds) (hdd : ∀ S H, Rps B.K S H dds dvs)
    (ha : AA B X (e :: es) wa) (hdb : (x == ("__debug__" : Str)) = false := by decide) (he : starEach (e :: es) X.env = (false, eval e X.env) :: starEach es X.env := by rfl) (hpl : (backTo pos (starEach es X.env)).any (·.1) = false := by rfl) :
    AE B X (.Call (.Name x p) (e :: es) [] pos) (wMake C A dds wa) := PE.weak (pe_make M F hr hg hm hb hd (passes0 rfl) ha hdb he hpl) (tw_make hdd fun _ _ _ z => z)
theorem ae_make0 (M : Mk X.K C f) (F : FnOk X.prog X.w X.K X.mg X.base (L2.CX X.prog X.w) k f fd ps (toSp B.K A)) (hr : Room (k + 1) X.A) (hg : Gl X x) (hm : X.mg x = some (.ref C)) (hb : Binds X.K fd ps ds) (hd : Vals dvs ds) (hdd : ∀ S H, Rps B.K S H dds dvs)
    (hdb : (x == ("__debug__" : Str)) = false := by decide) : AE B X (.Call (.Name x p) [] [] pos) (wMake C A dds waNil) :=
  PE.weak (pe_make0 M F hr hg hm hb hd (passes0 rfl) hdb) (tw_make hdd fun σ H K ⟨ρ, S, Q, R, q, k⟩ => k [] H [] S Step.refl R.ok Rps.nil q)
end
end KR
set_option Elab.async false
set_option linter.all false
set_option maxRecDepth 100000
set_option maxHeartbeats 2000000
namespace KR
open PySem PySem.Spec PyProof.Rows L2
/-! ### an object that stands is looked at from here on -/
section
variable {X : Cx} {pins : List (Addr × Obj)} {σ : St} {H : Hp} {s : Shared} {a : Addr} {oe : Obj}
theorem exD_ok {P : Program} {w : World} {h : Heap} (ha : h.get? a = some oe) : ObjOk P w H h a (ExD oe a) := ⟨ha, ⟨_, ha⟩, fun _ _ e k => k _ e⟩
theorem inv_track (I : Inv X pins σ H s) (hex : X.ex = []) (ha : s.heap.get? a = some oe) (na : H a = none) (nL : a ≠ X.env.locals) (n0 : X.s_0.heap.get? a = none) (nc : ∀ v, oe.data ≠ .cell v) (np : ∀ p ∈ X.pn ++ pins, p.1 ≠ a) :
    Inv X pins σ (upd H a (ExD oe a)) s where
  ok := I.ok
  os := I.os
  bare := I.bare
  base := by
    have u := I.base
    refine ⟨u.keep, u.slot, fun b o q n hx => ?_, u.there, fun b xs q => ?_, fun b o w q => ?_, fun b ps q => ?_⟩
    · rw [upd_ne (fun e => by rw [e, n0] at q; cases q)]
      exact u.free b o q n hx
    · have z := u.tups b xs q
      rw [upd_ne (ne_of_none z na)]; exact z
    · have z := u.frzs b o w q
      rw [upd_ne (ne_of_none z na)]; exact z
    · obtain ⟨m, z⟩ := u.tbls b ps q
      exact ⟨m, by rw [upd_ne (ne_of_none z na)]; exact z⟩
  loc := I.loc
  cell := I.cell
  free := by rw [upd_ne (Ne.symm nL)]; exact I.free
  freeC := fun x c e => by
    rw [upd_ne fun q => ?_]
    · exact I.freeC x c e
    · obtain ⟨v, hc⟩ := I.cell x c e
      subst q
      obtain ⟨o, h1, h2⟩ := hc
      rw [ha] at h1
      cases h1
      exact nc _ h2
  pin := fun p hp => by
    obtain ⟨h1, h2, h3⟩ := I.pin p hp
    exact ⟨h1, by rw [upd_ne (np p hp)]; exact h2, h3⟩
  hok := I.hok.laidN (fun _ _ q => q) na (exD_ok ha)
  len := I.len
theorem inv_suite2 (I : Inv X pins σ H s) (a : Addr) : Inv (X.suite a (X.pn ++ pins)) [] σ H s :=
  ⟨I.ok.suite _ _, I.os, I.bare, I.base, I.loc, I.cell, I.free, I.freeC, fun p hp => I.pin p (by rw [List.append_nil] at hp; exact hp), I.hok, I.len⟩
theorem inv_unsuite2 {pn' : List (Addr × Obj)} (I : Inv (X.suite a (X.pn ++ pins)) pn' σ H s) (ok : X.Ok) : Inv X pins σ H s :=
  ⟨ok, I.os, I.bare, I.base, I.loc, I.cell, I.free, I.freeC, fun p hp => I.pin p (List.mem_append_left _ hp), I.hok, I.len⟩
end
def wAs2 (K : PySem.W.Frag) (c : Value) (i : Nat) (ts : TS) (Wout : WX) (D : Ends) : WX := fun cls d σ H =>
  ∃ b, PySem.W.exmOne K cls c = some b ∧ (b = true → ∀ a oe, H a = none → Zc cls d oe → (∃ vs, oe.data = .fields vs) → ts { nx := fun σ' H' => D.nx (σ'.set i none) H', rt := D.rt, bk := fun σ' H' => D.bk (σ'.set i none) H', ct := fun σ' H' => D.ct (σ'.set i none) H' } (σ.set i (some (.ref a))) (upd H a (ExD oe a))) ∧
    (b = false → Wout cls d σ H)
section
variable {X : Cx} {x n : Str} {c : Value} {i : Nat} {body suite : List Stmt} {b₀ : Stmt} {np pos pos' : Pos} {tb : WX → TS} {ts : TS} {Wout : WX}
theorem ps_try_as2 (hs : X.stack = X.env :: X.outer) (hf : X.env.frame = some X.env.locals) (hex : X.ex = []) (hN : X.N.Nodup) (hi : X.N[i]? = some n) (hln : X.env.kindOf n = some .local) (hc : Names X x c) (tk : Takes X Wout)
    (hb : ∀ (W : WX) (pn : List (Addr × Obj)) (xe : Value → Shared → Prop), Takes (X.tr pn xe) W → PassesOwn (model X.prog X.w) X.A X.env xe → PSs (X.tr pn xe) body (tb W))
    (hsu : ∀ (a : Addr) (pn : List (Addr × Obj)), PSs (X.suite a pn) (b₀ :: suite) ts) :
    PS X (.Try body [.ExceptHandler (some (.Name x np)) (some n) (b₀ :: suite) pos'] [] [] pos) (fun D σ H => tb (wAs2 X.K c i ts Wout D) D σ H) := by
  refine ⟨fun pins s σ H D I h => ?_⟩
  have ok := I.ok
  have hfr : X.A.frames = some (X.env :: X.outer) := by rw [ok.frames, hs]
  have hloc : Loc X.env.scope n := .inl hln
  refine wpAny_Try_except ?_
  refine wpAny_mono ((hb (wAs2 X.K c i ts Wout D) (X.pn ++ pins) (fun e s₁ => wpAny (model X.prog X.w) X.A (noteFrame e X.env) (fun _ s₂ => wpAny (model X.prog X.w) X.A (setFlight e none) (fun _ s₃ =>
    wpAny (model X.prog X.w) X.A (handleBy e X.env [.ExceptHandler (some (.Name x np)) (some n) (b₀ :: suite) pos']) (SP X pins D) X.xe s₃) X.xe s₂) X.xe s₁) (fun u s' xx => ?_) PassesOwn.looking).run [] s σ H D (I.toTry _) h) (fun f s1 hsp => ?_) (fun e s1 he => he)
  · -- the catch
    obtain ⟨a, B, sI, pins', σ', H', cls, d, rfl, J', nb, up, sky, na, os, ag, b, hb1, hyes, hno⟩ := xx
    have J : Inv X pins σ' H' sI := J'.ofTry ok
    have sky' : Sky B (X.env :: X.outer) a (Zc cls d) X.env.locals s'.heap := by rw [← hs]; exact sky
    show wpAny (model X.prog X.w) X.A (noteFrame (.ref a) X.env) _ _ _
    refine Sky.land Zc.steady hfr hf sky' fun h3 fl3 up3 => ?_
    have J3 : Inv X pins σ' H' { s' with heap := h3 } := J.landed nb fl3.1 (up.trans up3) os ag
    obtain ⟨oe3, vs3, he3, hz3, hd3⟩ := fl3.there
    have notFr : ∀ {h : Heap} {o : Obj} {vs : Array Value}, h.FunFrames B (X.env :: X.outer) → h.get? a = some o → o.data = .fields vs → a ∉ frs (X.env :: X.outer) := fun {h o vs} ff e dd hm => by
      obtain ⟨_, o', e', hnf⟩ := ff.mem hm
      rw [e] at e'; cases e'
      exact hnf _ dd
    have nfr := notFr fl3.2.2.1 he3 hd3
    have nL : a ≠ X.env.locals := fun z => nfr (List.mem_filterMap.mpr ⟨X.env, List.mem_cons_self, by rw [hf, z]⟩)
    have nF : a ∉ X.fs := fun hm => by
      obtain ⟨e, he, q⟩ := List.mem_filterMap.mp hm
      exact nfr (List.mem_filterMap.mpr ⟨e, List.mem_cons_of_mem _ he, q⟩)
    have nBa : B.get? a = none := fl3.2.1
    have nI : sI.heap.get? a = none := by
      cases q : sI.heap.get? a with
      | none => rfl
      | some o =>
        have z := nb a o q (by rw [hs]; exact nfr)
        rw [nBa] at z; cases z
    have n0 : X.s_0.heap.get? a = none := by
      cases q : X.s_0.heap.get? a with
      | none => rfl
      | some o =>
        obtain ⟨o', z⟩ := J.base.there a o q (by rw [hex]; exact List.not_mem_nil)
        rw [nI] at z; cases z
    have npn : ∀ p ∈ X.pn ++ pins, p.1 ≠ a := fun p hp e => by
      have z := (J.pin p hp).1
      rw [e, nI] at z; cases z
    have S3 := J3.suite he3 hd3 na nL nF
    refine wpAny_handleBy_cons (codeAny_handlers_test ?_) (by intro q; cases q)
    have LT : PySem.W.Looks (model X.prog X.w) h3 (typeOf (.ref a)) cls := fun A Q E s k q => wpAny_typeOf_ref (k _ _ he3) (by rw [hz3.1]; exact q)
    have LM := PySem.W.exm_one (M := model X.prog X.w) (J3.kIn) LT hb1
    have test : ∀ {Q : Value → Shared → Prop} {E : Value → Shared → Prop}, Q c { s' with heap := h3 } → wpAny (model X.prog X.w) (X.A.mark (some (.ref a))) (eval (.Name x np) X.env) Q E { s' with heap := h3 } := fun {Q E} q => by
      obtain ⟨hg, hdbg, hm | ⟨hm, hv, hnn⟩⟩ := hc
      · exact ld_glob (X := X.suite a ((a, oe3) :: (X.pn ++ pins))) S3 hg hm q hdbg
      · exact ld_blt (X := X.suite a ((a, oe3) :: (X.pn ++ pins))) S3 hg hm hv q hnn hdbg
    refine test (LM.here ?_)
    cases b with
    | true =>
      refine codeAny_handlers_suite_as ?_
      refine HandSPX.lands_againZ fl3 fun h4 fl4 up4 => ?_
      have J4 : Inv X pins σ' H' { s' with heap := h4 } := J.landed nb fl4.1 ((up.trans up3).trans up4) os ag
      obtain ⟨oe4, vs4, he4, hz4, hd4⟩ := fl4.there
      have T4 := inv_track J4 hex he4 na nL n0 (fun v z => by rw [hd4] at z; cases z) npn
      have S4 := inv_suite2 T4 a
      refine store_ok (X := X.suite a (X.pn ++ pins)) (v := .ref a) S4 hN hi hloc rfl (fun s5 S5 => ?_) (.inr hln)
      refine wpAny_mono ((hsu a (X.pn ++ pins)).run [] s5 _ _ _ S5 (hyes rfl a oe4 na hz4 ⟨_, hd4⟩)) (fun f s6 hsp => ?_) (fun _ _ z => False.elim z)
      have end_ : ∀ {σ6 : St} {H6 : Hp} {Q : Shared → Prop}, Inv (X.suite a (X.pn ++ pins)) [] σ6 H6 s6 → (∀ s7, Inv X pins (σ6.set i none) H6 s7 → Q s7) →
          wpAny (model X.prog X.w) X.A (do bindName X.env n .none; unbindBehindTheSuite X.env n pos') (fun _ s7 => Q s7) X.xe s6 := fun {σ6 H6 Q} S6 hq => gone_ok (inv_unsuite2 S6 ok) hN hi hln hq
      cases f with
      | next =>
        obtain ⟨σ6, H6, S6, q6⟩ := hsp
        exact end_ S6 fun s7 J7 => ⟨_, _, J7, q6⟩
      | brk =>
        obtain ⟨σ6, H6, S6, q6⟩ := hsp
        exact end_ S6 fun s7 J7 => ⟨_, _, J7, q6⟩
      | cont =>
        obtain ⟨σ6, H6, S6, q6⟩ := hsp
        exact end_ S6 fun s7 J7 => ⟨_, _, J7, q6⟩
      | ret u =>
        obtain ⟨v6, σ6, H6, S6, r6, q6⟩ := hsp
        exact end_ S6 fun s7 J7 => ⟨_, _, _, J7, r6, q6⟩
    | false =>
      show wpAny _ X.A (handleBy (.ref a) X.env []) _ _ _
      refine wpAny_handleBy_nil ?_
      obtain ⟨k1, k2, k3, oe, vs, T, oT, ts', he, hz, hd, h1, hr⟩ := id fl3
      unfold PySem.passOn
      refine wpAny_bind (wpAny_field he hd h1 ?_)
      rw [if_neg (show ¬ ((Value.ref T == Value.none) = true) from by simp)]
      have fin : wpAny (model X.prog X.w) X.A (setFlight (.ref a) X.env.frame) (fun _ s4 => wpAny (model X.prog X.w) X.A (throw (.ref a) : Sem Flow) (SP X pins D) X.xe s4) X.xe { s' with heap := h3 } := by
        rw [hf]
        refine HandSPX.setFlight_upZ fl3 fun h4 hh4 up4 => wpAny_throw (tk _ _ ?_)
        exact ⟨a, B, sI, pins, σ', H', cls, d, rfl, J, nb, (up.trans up3).trans up4, .inr (.inr (by rw [hs]; exact hh4)), na, os, ag, hno rfl⟩
      first
        | exact wpAny_bind (wpAny_pure (wpAny_bind fin))
        | exact wpAny_bind fin
  · cases f with
    | next =>
      obtain ⟨σ', H', J', q⟩ := hsp
      exact wpAny_execs_nil ⟨σ', H', J'.ofTry ok, q⟩
    | brk =>
      obtain ⟨σ', H', J', q⟩ := hsp
      exact ⟨σ', H', J'.ofTry ok, q⟩
    | cont =>
      obtain ⟨σ', H', J', q⟩ := hsp
      exact ⟨σ', H', J'.ofTry ok, q⟩
    | ret u =>
      obtain ⟨v, σ', H', J', r, q⟩ := hsp
      exact ⟨v, σ', H', J'.ofTry ok, r, q⟩
end
end KR
set_option Elab.async false
set_option linter.all false
set_option maxRecDepth 100000
set_option maxHeartbeats 2000000
namespace KR
open PySem PySem.Spec PyProof.Rows L2
/-! ### raise -/
section
variable {B : Bs} {X : Cx} {C : Addr} {Wx : XQ}
def wRaise (C : Addr) (Wx : XQ) : WS := fun _ ρ S => Wx (.ref C) none ρ S
theorem as_raise {x m : Str} {j : Nat} {p p2 pos pos2 : Pos} (hc : X.calm = true) (q : PySem.W.excIn X.K C He.veBase "ValueError.__new__" = true ∧ PySem.W.keepIn X.K (.ref C) = true ∧ PySem.W.subIn X.K (.ref C) (.type "BaseException") = some true ∧ PySem.W.typeIn X.K (.ref C) = some (.type "type"))
    (gC : X.mg x = some (.ref C)) (hg : Gl X x) (hx : Xc B X Wx) (hdb : (x == ("__debug__" : Str)) = false := by decide) : AS B X (.Raise (some (.Call (.Name x p) [.Constant (.str m) j p2] [] pos2)) none pos) (wRaise C Wx) := by
  obtain ⟨W, tk, hW⟩ := hx
  exact PS.weak (ps_raise hc tk (pmk_own F.excBase_ValueError q.1 gC q.2.1 (raises_own q.2.2.1 q.2.2.2) hg hdb)) fun D σ H ⟨ρ, S, E, R, q, im⟩ => hW (.ref C) none none ρ S σ H R rfl q
/-- an exception with one field -/
def wRaiseI (C : Addr) (f : Str) (wa : WA) (Wx : XQ) : WS := fun _ ρ S => wa ρ S fun ds S1 => ∃ y, ds = [y] ∧ Wx (.ref C) (some (f, y)) ρ S1
def spI (K : PySem.W.Frag) (f : Str) : Sp := fun vs H Q _ => ∃ a C y, vs = [.ref a, y] ∧ OexC K C ∧ PySem.W.findIn K (.ref C) f = some none ∧ H a = some (exo a C none) ∧ ∀ dx, H dx = none → dx ≠ a → Q .non (upd (upd H dx (exd dx [(f, y)])) a (exo a C (some dx)))
theorem del_upd {H : Hp} {a d : Addr} {o o' o2 u : HO} (ha : H a = none) (hd : H d = none) (ne : d ≠ a) : upd (del (upd (upd (upd H a o) d o') a o2) a) d u = upd H d u := by
  funext b
  by_cases h1 : b = d
  · subst h1; rw [upd_same, upd_same]
  · rw [upd_ne h1, upd_ne h1]
    by_cases h2 : b = a
    · subst h2; rw [del_same, ha]
    · rw [del_ne h2, upd_ne h2, upd_ne h1, upd_ne h2]
theorem as_raiseI {fI : Addr} {k : Nat} {fd : FuncData} {ps : List Str} {x f : Str} {e : Expr} {p pos pos2 : Pos} {wa : WA} (hc : X.calm = true) (T : OexC X.K C) (iC : PySem.W.findIn X.K (.ref C) "__init__" = some (some (.ref fI))) (tI : PySem.W.typeIn X.K (.ref fI) = some (.type "function"))
    (hno : PySem.W.findIn X.K (.ref C) f = some none) (F1 : FnOk X.prog X.w X.K X.mg X.base (L2.CX X.prog X.w) k fI fd ps (spI X.K f)) (hr : Room (k + 1) X.A) (hb : Binds X.K fd ps []) (hg : Gl X x) (hm : X.mg x = some (.ref C)) (ha : AA B X [e] wa) (hx : Xc B X Wx)
    (hdb : (x == ("__debug__" : Str)) = false := by decide) (he : starEach [e] X.env = (false, eval e X.env) :: starEach [] X.env := by rfl) (hpl : (backTo pos2 (starEach [] X.env)).any (·.1) = false := by rfl) :
    AS B X (.Raise (some (.Call (.Name x p) [e] [] pos2)) none pos) (wRaiseI C f wa Wx) := by
  obtain ⟨W, tk, hW⟩ := hx
  exact PS.weak (ps_raise hc tk (pmk_oex (dvs := []) T iC tI F1 hr hb .nil (passes0 rfl) hg hm ha hdb he hpl)) fun D σ H ⟨ρ, S, E, R, q, im⟩ => ⟨ρ, S, _, R, q, fun vs H1 ds S1 st ok rd ⟨y, e1, q1⟩ => by
    subst e1
    obtain ⟨v, r, rfl, r1, r2⟩ := rd.uncons
    have e2 := r2.nil_of
    subst e2
    refine ⟨by simp, fun a na => ?_⟩
    refine ⟨a, C, v, rfl, T, hno, upd_same, fun dx hd ne => ⟨rfl, dx, [(f, v)], upd_same, ?_, ?_, ?_⟩⟩
    · rw [upd_ne ne, upd_same]
    · rw [upd_ne ne] at hd; exact hd
    · rw [upd_ne ne] at hd
      rw [del_upd na hd ne]
      have st2 : Step S1 H1 S1 (upd H1 dx (.xd [(f, v)])) := step_new ok hd
      have ok2 : Ok B.K S1 (upd H1 dx (.xd [(f, v)])) := ok_new ok hd True.intro
      exact hW _ (some (f, y)) (some dx) ρ S1 σ _ ((R.step st ok).step st2 ok2) ⟨dx, v, rfl, ok.new hd, upd_same, r1.step st2⟩ q1⟩
end
/-! ### try -/
def plF : Pl → List (Str × D)
  | none => []
  | some p => [p]
theorem Rel.re {B : Bs} {ρ ρ' : AR} {S S' : Store} {σ σ' : St} {H H' : Hp} (R : Rel B ρ S σ H) (R' : Rel ⟨B.K, S, H⟩ ρ' S' σ' H') : Rel B ρ' S' σ' H' := ⟨R.st.trans R'.st, R'.ok, R'.len, R'.vs⟩
def wTry (K : Kx) (c : Value) (i : Nat) (wb : XQ → WS) (ws : WS) (Wout : XQ) : WS := fun E ρ S => wb (fun cls pl ρ' S' => ∃ b C, cls = .ref C ∧ PySem.W.exmOne K.K cls c = some b ∧
  (b = true → ws { nx := fun ρ2 S2 => E.nx (ρ2.set i none) S2, rt := E.rt, bk := fun ρ2 S2 => E.bk (ρ2.set i none) S2, ct := fun ρ2 S2 => E.ct (ρ2.set i none) S2 } (ρ'.set i (some (.exc C (plF pl)))) S') ∧ (b = false → Wout cls pl ρ' S')) E ρ S
section
variable {B : Bs} {X : Cx} {x n : Str} {c : Value} {i : Nat} {body suite : List Stmt} {b₀ : Stmt} {np pos pos' : Pos} {wb : XQ → WS} {ws : WS} {Wout : XQ}
theorem as_try (hk : X.K = B.K.K) (hs : X.stack = X.env :: X.outer) (hf : X.env.frame = some X.env.locals) (hex : X.ex = []) (hN : X.N.Nodup) (hi : X.N[i]? = some n) (hln : X.env.kindOf n = some .local) (hc : Names X x c) (hx : Xc B X Wout)
    (hb : ∀ (S : Store) (H : Hp) (pn : List (Addr × Obj)) (xe : Value → Shared → Prop) (Wx : XQ), PassesOwn (model X.prog X.w) X.A X.env xe → Xc ⟨B.K, S, H⟩ (X.tr pn xe) Wx → ASs ⟨B.K, S, H⟩ (X.tr pn xe) body (wb Wx))
    (hsu : ∀ (S : Store) (H : Hp) (a : Addr) (pn : List (Addr × Obj)), ASs ⟨B.K, S, H⟩ (X.suite a pn) (b₀ :: suite) ws) :
    AS B X (.Try body [.ExceptHandler (some (.Name x np)) (some n) (b₀ :: suite) pos'] [] [] pos) (wTry B.K c i wb ws Wout) := by
  obtain ⟨Wo, tk, hW⟩ := hx
  refine PS.weak (ps_try_as2 hs hf hex hN hi hln hc tk
    (tb := fun W D σ H => ∃ (S0 : Store) (H0 : Hp) (ρ : AR) (S : Store) (E : AEnds) (Wx : XQ), Rel ⟨B.K, S0, H0⟩ ρ S σ H ∧ wb Wx E ρ S ∧ Imp ⟨B.K, S0, H0⟩ S H E D ∧
      ∀ cls pl dx ρ' S' σ' H', Rel ⟨B.K, S0, H0⟩ ρ' S' σ' H' → PlR B.K S' H' pl dx → Wx cls pl ρ' S' → W cls dx σ' H')
    (ts := fun D σ H => ∃ S0 H0, tws ⟨B.K, S0, H0⟩ ws D σ H) ?_ ?_) ?_
  · intro W pn xe tk' pas
    refine ⟨fun pins s σ H D I ⟨S0, H0, ρ, S, E, Wx, R, q, im, hx'⟩ => ?_⟩
    exact (hb S0 H0 pn xe Wx pas ⟨W, tk', hx'⟩).run pins s σ H D I ⟨ρ, S, E, R, q, im⟩
  · intro a pn
    refine ⟨fun pins s σ H D I ⟨S0, H0, q⟩ => ?_⟩
    exact (hsu S0 H0 a pn).run pins s σ H D I q
  · rintro D σ H ⟨ρ, S, E, R, q, im⟩
    refine ⟨S, H, ρ, S, E, _, ⟨Step.refl, R.ok, R.len, R.vs⟩, q, ⟨fun ρ' S' σ' H' st R' e => im.nx _ _ _ _ st (R.re R') e, fun d S' v H' st ok r e => im.rt _ _ _ _ st ok r e, fun ρ' S' σ' H' st R' e => im.bk _ _ _ _ st (R.re R') e, fun ρ' S' σ' H' st R' e => im.ct _ _ _ _ st (R.re R') e⟩, ?_⟩
    rintro cls pl dx ρ' S' σ' H' R' hp ⟨b, C, rfl, hb1, yes, no⟩
    refine ⟨b, by rw [hk]; exact hb1, fun e a oe na hz hfl => ?_, fun e => hW _ _ _ ρ' S' σ' H' (R.re R') hp (no e)⟩
    have st2 : Step S' H' S' (upd H' a (ExD oe a)) := step_new R'.ok na
    have ok2 : Ok B.K S' (upd H' a (ExD oe a)) := ok_new R'.ok na True.intro
    have sa : S' a = none := R'.ok.new na
    obtain ⟨vs, hfl⟩ := hfl
    have rx : Rp B.K S' (upd H' a (ExD oe a)) (.exc C (plF pl)) (.ref a) := by
      unfold Rp
      refine ⟨a, oe, vs, rfl, sa, upd_same, hz.1, hfl, ?_⟩
      cases pl with
      | none => exact .inl ⟨rfl, by rw [hz.2]; exact hp⟩
      | some p =>
        obtain ⟨f, d⟩ := p
        obtain ⟨a', v, e1, s1, h1, r1⟩ := hp
        have h2 := st2 a' _ s1 h1
        refine .inr ⟨a', [(f, v)], by rw [hz.2]; exact e1, s1, h2.2, ?_⟩
        unfold plF RpF
        exact ⟨v, [], rfl, r1.step st2, by unfold RpF; rfl⟩
    have R2 := (R'.step st2 ok2).set rx i
    refine ⟨S', upd H' a (ExD oe a), _, S', _, ⟨Step.refl, R2.ok, R2.len, R2.vs⟩, yes e, ?_⟩
    have re2 : ∀ {ρ3 S3 σ3 H3}, Rel ⟨B.K, S', upd H' a (ExD oe a)⟩ ρ3 S3 σ3 H3 → Rel B ρ3 S3 σ3 H3 := fun R3 => ⟨((R.re R').st.trans st2).trans R3.st, R3.ok, R3.len, R3.vs⟩
    exact ⟨fun ρ3 S3 σ3 H3 st3 R3 e3 => im.nx _ _ _ _ ((R'.st.trans st2).trans st3) ((re2 R3).del i) e3, fun d S3 v H3 st3 ok3 r3 e3 => im.rt _ _ _ _ ((R'.st.trans st2).trans st3) ok3 r3 e3,
      fun ρ3 S3 σ3 H3 st3 R3 e3 => im.bk _ _ _ _ ((R'.st.trans st2).trans st3) ((re2 R3).del i) e3, fun ρ3 S3 σ3 H3 st3 R3 e3 => im.ct _ _ _ _ ((R'.st.trans st2).trans st3) ((re2 R3).del i) e3⟩
end
/-! ### what was caught: isinstance, a field -/
structure ExC (K : PySem.W.Frag) (C : Addr) : Prop where
  cl : (PySem.W.clsIn K C).isSome = true
  ga : PySem.W.findIn K (.ref C) "__getattribute__" = some (some (.builtin "BaseException.__getattribute__"))
  gg : PySem.W.findIn K (.ref C) "__getattr__" = some none
  sb : PySem.W.subIn K (.ref C) (.type "BaseException") = some true
  ha : PySem.W.findIn K (.ref C) "__class__" = some (some (.builtin "object.__class__"))
  hn : PySem.W.specialIn K (.builtin "object.__class__") "__get__" = some (some (.builtin "getset_descriptor.__get__"))
  ht : PySem.W.takesIn K (.builtin "object.__class__") = some true
  hm : PySem.W.mroIn K C (.type "object") = some true
  hd : PySem.W.hasDictIn K C = true
def exC (K : PySem.W.Frag) (C : Addr) : Bool := (PySem.W.clsIn K C).isSome && (decide (PySem.W.findIn K (.ref C) "__getattribute__" = some (some (.builtin "BaseException.__getattribute__"))) && (decide (PySem.W.findIn K (.ref C) "__getattr__" = some none) &&
  (decide (PySem.W.subIn K (.ref C) (.type "BaseException") = some true) && (decide (PySem.W.findIn K (.ref C) "__class__" = some (some (.builtin "object.__class__"))) && (decide (PySem.W.specialIn K (.builtin "object.__class__") "__get__" = some (some (.builtin "getset_descriptor.__get__"))) &&
  (decide (PySem.W.takesIn K (.builtin "object.__class__") = some true) && (decide (PySem.W.mroIn K C (.type "object") = some true) && PySem.W.hasDictIn K C)))))))
theorem exC_ok {K : PySem.W.Frag} {C : Addr} (h : exC K C = true) : ExC K C := by
  unfold exC at h
  simp only [Bool.and_eq_true, decide_eq_true_eq] at h
  obtain ⟨h1, h2, h3, h4, h5, h6, h7, h8, h9⟩ := h
  exact ⟨h1, h2, h3, h4, h5, h6, h7, h8, h9⟩
end KR
set_option Elab.async false
set_option linter.all false
set_option maxRecDepth 100000
set_option maxHeartbeats 2000000
namespace KR
open PySem PySem.Spec PyProof.Rows L2
/-! ### dicts whose keys are tuples of any depth -/
mutual
theorem nk_is {P : Program} {w : World} {S : Store} {H : Hp} {h : Heap} (ok : HOk P w H h) : ∀ {k : NestedKey} {v : V} {u : Value}, NkR S H k v → RelV v u → NestedIs h k u
  | .none, v, u, r, ru => by
    unfold NkR at r; subst r
    cases (show u = Value.none from ru); exact .none
  | .num i, v, u, r, ru => by
    unfold NkR at r; subst r
    obtain ⟨t, rfl⟩ := (show ∃ t, u = Value.int i t from ru); exact .int _ _
  | .text x, v, u, r, ru => by
    unfold NkR at r; subst r
    obtain ⟨t, rfl⟩ := (show ∃ t, u = Value.str x t from ru); exact .text _ _
  | .tup ks, v, u, r, ru => by
    unfold NkR at r
    obtain ⟨a, vs, rfl, _, hh, r⟩ := r
    cases (show u = Value.ref a from ru)
    obtain ⟨_, its, rv, o, h1, h2, n, h3⟩ := (show ObjOk P w H h a (.tup vs) from rd_of ok hh)
    exact .tup h1 h2 h3 (nks_is ok r rv)
theorem nks_is {P : Program} {w : World} {S : Store} {H : Hp} {h : Heap} (ok : HOk P w H h) : ∀ {ks : List NestedKey} {vs : List V} {us : List Value}, NkRs S H ks vs → Vals vs us → NestedAll h ks us
  | [], vs, us, r, ru => by
    unfold NkRs at r; subst r
    cases ru; exact .nil
  | k :: ks, vs, us, r, ru => by
    unfold NkRs at r
    obtain ⟨v, r', rfl, h1, h2⟩ := r
    cases ru with
    | cons q t => exact .cons (nk_is ok h1 q) (nks_is ok h2 t)
end
mutual
/-- the key that a tree is -/
def kN : D → Option NestedKey
  | .non => some .none
  | .int i => some (.num i)
  | .str x => some (.text x)
  | .tup xs => (kNs xs).map .tup
  | .tupz xs => (kNs xs).map .tup
  | _ => none
def kNs : List D → Option (List NestedKey)
  | [] => some []
  | d :: ds => match kN d, kNs ds with
    | some k, some ks => some (k :: ks)
    | _, _ => none
end
section
variable {K : Kx} {S S' : Store} {H H' : Hp}
mutual
theorem kN_ok : ∀ {d : D} {v : V} {k : NestedKey}, Rp K S H d v → kN d = some k → NkR S H k v
  | .non, v, k, r, e => by unfold kN at e; cases e; unfold NkR; exact of_non r
  | .int i, v, k, r, e => by unfold kN at e; cases e; unfold NkR; exact of_int r
  | .str x, v, k, r, e => by unfold kN at e; cases e; unfold NkR; exact of_str r
  | .tup xs, v, k, r, e => by
    unfold kN at e
    obtain ⟨ks, e1, e2⟩ := Option.map_eq_some_iff.mp e
    subst e2
    unfold Rp at r; obtain ⟨a, vs, rfl, hs, hh, r⟩ := r
    unfold NkR; exact ⟨a, vs, rfl, hs, .inl hh, kNs_ok r e1⟩
  | .tupz xs, v, k, r, e => by
    unfold kN at e
    obtain ⟨ks, e1, e2⟩ := Option.map_eq_some_iff.mp e
    subst e2
    unfold Rp at r; obtain ⟨a, o, vs, rfl, hs, hh, _, r⟩ := r
    unfold NkR; exact ⟨a, vs, rfl, hs, .inr ⟨o, hh⟩, kNs_ok r e1⟩
  | .bl _, _, _, _, e => by unfold kN at e; cases e
  | .ref _, _, _, _, e => by unfold kN at e; cases e
  | .lst _, _, _, _, e => by unfold kN at e; cases e
  | .dK _, _, _, _, e => by unfold kN at e; cases e
  | .dT _, _, _, _, e => by unfold kN at e; cases e
  | .dN _, _, _, _, e => by unfold kN at e; cases e
  | .ins _ _, _, _, _, e => by unfold kN at e; cases e
  | .raw _, _, _, _, e => by unfold kN at e; cases e
  | .scr _, _, _, _, e => by unfold kN at e; cases e
  | .kt _, _, _, _, e => by unfold kN at e; cases e
  | .exc _ _, _, _, _, e => by unfold kN at e; cases e
theorem kNs_ok : ∀ {ds : List D} {vs : List V} {ks : List NestedKey}, Rps K S H ds vs → kNs ds = some ks → NkRs S H ks vs
  | [], vs, ks, r, e => by unfold kNs at e; cases e; unfold NkRs; exact r.nil_of
  | d :: ds, vs, ks, r, e => by
    unfold kNs at e
    split at e
    · rename_i k ks' e1 e2
      cases e
      obtain ⟨v, us, rfl, r1, r2⟩ := r.uncons
      unfold NkRs
      exact ⟨v, us, rfl, kN_ok r1 e1, kNs_ok r2 e2⟩
    · cases e
end
def getN (kvs : List (NestedKey × D)) (k : NestedKey) : Option D := (kvs.find? fun x => decide (x.1 = k)).map (·.2)
def putN (kvs : List (NestedKey × D)) (k : NestedKey) (d : D) : List (NestedKey × D) := if (getN kvs k).isSome then kvs.map (fun x => if x.1 = k then (x.1, d) else x) else kvs ++ [(k, d)]
theorem RpN.len : ∀ {kvs : List (NestedKey × D)} {xs : List (NestedKey × Addr × Value)}, RpN K S H kvs xs → kvs.length = xs.length
  | [], _, h => by unfold RpN at h; subst h; rfl
  | (k, d) :: kvs, _, h => by
    unfold RpN at h
    obtain ⟨b, u, v, r, rfl, _, _, _, h4⟩ := h
    rw [List.length_cons, List.length_cons, RpN.len h4]
theorem RpN.all {P : Program} {w : World} {h : Heap} (ok : HOk P w H h) : ∀ {kvs : List (NestedKey × D)} {xs : List (NestedKey × Addr × Value)}, RpN K S H kvs xs → ∀ x ∈ xs, (nestedKind P w).is h x.1 x.2.1
  | [], _, r, x, hx => by unfold RpN at r; subst r; cases hx
  | (k, d) :: kvs, _, r, x, hx => by
    unfold RpN at r
    obtain ⟨b, u, v, r', rfl, ⟨h1, h1'⟩, h2, h3, h4⟩ := r
    rcases List.mem_cons.mp hx with e | hx
    · subst e
      exact ⟨nk_is ok h1 rfl, h1'⟩
    · exact RpN.all ok h4 x hx
theorem RpN.get {k : NestedKey} : ∀ {kvs : List (NestedKey × D)} {xs : List (NestedKey × Addr × Value)}, RpN K S H kvs xs → (getN kvs k = none ∧ atKey xs k = none) ∨ ∃ d p v, getN kvs k = some d ∧ atKey xs k = some p ∧ RelV v p.2 ∧ Rp K S H d v
  | [], _, r => by unfold RpN at r; subst r; exact .inl ⟨rfl, rfl⟩
  | (k', d) :: kvs, _, r => by
    unfold RpN at r
    obtain ⟨b, u, v, r', rfl, h1, h2, h3, h4⟩ := r
    unfold getN atKey
    by_cases e : k' = k
    · right
      exact ⟨d, (b, u), v, by simp [e], by simp [e], h2, h3⟩
    · have ih := RpN.get (k := k) h4
      unfold getN atKey at ih
      simpa [List.find?_cons, e] using ih
theorem RpN.snoc {k : NestedKey} {b : Addr} {u : Value} {v : V} {d : D} (h1 : NkR S H k (.ref b)) (h1' : k.depth ≤ 8) (h2 : RelV v u) (h3 : Rp K S H d v) : ∀ {kvs : List (NestedKey × D)} {xs : List (NestedKey × Addr × Value)}, RpN K S H kvs xs → RpN K S H (kvs ++ [(k, d)]) (xs ++ [(k, b, u)])
  | [], _, r => by
    unfold RpN at r; subst r
    show RpN K S H [(k, d)] [(k, b, u)]
    unfold RpN
    exact ⟨b, u, v, [], rfl, ⟨h1, h1'⟩, h2, h3, by unfold RpN; rfl⟩
  | (k', d') :: kvs, _, r => by
    unfold RpN at r
    obtain ⟨b', u', v', r', rfl, g1, g2, g3, g4⟩ := r
    show RpN K S H ((k', d') :: (kvs ++ [(k, d)])) ((k', b', u') :: (r' ++ [(k, b, u)]))
    unfold RpN
    exact ⟨b', u', v', _, rfl, g1, g2, g3, RpN.snoc h1 h1' h2 h3 g4⟩
theorem RpN.putAt {k : NestedKey} {u : Value} {v : V} {d : D} (h2 : RelV v u) (h3 : Rp K S H d v) : ∀ {kvs : List (NestedKey × D)} {xs : List (NestedKey × Addr × Value)}, RpN K S H kvs xs → RpN K S H (kvs.map (fun x => if x.1 = k then (x.1, d) else x)) (xs.map (PySem.putAt k u))
  | [], _, r => by
    unfold RpN at r; subst r
    unfold RpN; rfl
  | (k', d') :: kvs, _, r => by
    unfold RpN at r
    obtain ⟨b', u', v', r', rfl, g1, g2, g3, g4⟩ := r
    rw [List.map_cons, List.map_cons]
    unfold PySem.putAt
    by_cases e : k' = k
    · rw [if_pos e, if_pos e]
      unfold RpN
      exact ⟨b', u, v, _, rfl, g1, h2, h3, RpN.putAt h2 h3 g4⟩
    · rw [if_neg e, if_neg e]
      unfold RpN
      exact ⟨b', u', v', _, rfl, g1, g2, g3, RpN.putAt h2 h3 g4⟩
theorem RpN.put {k : NestedKey} {b : Addr} {u : Value} {v : V} {d : D} {kvs : List (NestedKey × D)} {xs : List (NestedKey × Addr × Value)} (h1 : NkR S H k (.ref b)) (h1' : k.depth ≤ 8) (h2 : RelV v u) (h3 : Rp K S H d v) (r : RpN K S H kvs xs) :
    RpN K S H (putN kvs k d) (storedH xs k b u) := by
  unfold putN storedH
  rcases r.get (k := k) with ⟨e1, e2⟩ | ⟨d', p, v', e1, e2, _, _⟩
  · rw [e1, e2]
    exact r.snoc h1 h1' h2 h3
  · rw [e1, e2]
    exact r.putAt h2 h3
theorem putN_len (kvs : List (NestedKey × D)) (k : NestedKey) (d : D) : (putN kvs k d).length ≤ kvs.length + 1 := by
  unfold putN
  split
  · simp
  · simp
/-- the dict as the kit tells it -/
theorem dn_at {X : Cx} {pins : List (Addr × Obj)} {σ : St} {s : Shared} {a : Addr} {o : Obj} {es : Array DictEntry} {ep : Nat} {xs : List (NestedKey × Addr × Value)} {kvs : List (NestedKey × D)} (I : Inv X pins σ H s) (hh : H a = some (ExD o a)) (e1 : o.ExactDict) (e2 : o.data = .dict es ep)
    (e3 : es.toList = xs.map (entryOfKey (nestedKind K.P K.w))) (e4 : (xs.map (·.1)).Nodup) (r : RpN K S H kvs xs) (hP : X.prog = K.P) (hw : X.w = K.w) : s.heap.DictOfH (nestedKind X.prog X.w) a xs := by
  have ho := (I.hok a _ hh).1
  refine ⟨o, es, ep, ho, e1, e2, by rw [hP, hw]; exact e3, r.all I.hok, e4⟩
theorem storedH_len (xs : List (NestedKey × Addr × Value)) (k : NestedKey) (b : Addr) (u : Value) : (storedH xs k b u).length ≤ xs.length + 1 := by
  unfold storedH
  split <;> simp
/-- the dict written -/
theorem dn_write {X : Cx} {pins : List (Addr × Obj)} {σ : St} {s : Shared} {h' : Heap} {t' : Nat} {a : Addr} {c : Cell} {xs : List (NestedKey × Addr × Value)} {kvs : List (NestedKey × D)} (I : Inv X pins σ H s) (ok : Ok K S H) (hS : S a = some c) (mu : Mut (H a)) (hd : (a == sysModules) = false) (hs : Heap.SameBut a s.heap h')
    (dd : h'.DictOfH (nestedKind X.prog X.w) a xs) (hz : xs.length ≤ sizeLine) (hP : X.prog = K.P) (hw : X.w = K.w) (r : ∀ S2 H2, Step S H S2 H2 → RpN K S2 H2 kvs xs) :
    ∃ H', Step S H (sup S a (.dN kvs)) H' ∧ Ok K (sup S a (.dN kvs)) H' ∧ Inv X pins σ H' { s with heap := h', toks := t' } := by
  obtain ⟨o, es, ep, ho, e1, e2, e3, _, e4⟩ := dd
  have st : Step S H (sup S a (.dN kvs)) (upd H a (ExD o a)) := step_put hS
  refine ⟨upd H a (ExD o a), st, ok_put ok hS True.intro ⟨o, es, ep, xs, upd_same, e1, e2, by rw [← hP, ← hw]; exact e3, e4, hd, hz, r _ _ st⟩, d_write I mu hs ⟨o, ho⟩ ?_⟩
  exact ⟨ho, ⟨o, ho⟩, fun _ _ e k => k _ e⟩
end
section
variable {B : Bs} {X : Cx} {pos apos cpos : Pos} {o e f : Expr} {wo we wf : WE}
/-- {} as such a dict -/
def wNewN : WE := fun _ S Q => ∀ a, S a = none → Q (.ref a) (sup S a (.dN []))
theorem ae_newN : AE B X (.Dict [] [] pos) wNewN := ⟨fun pins s σ H Q I ⟨ρ, S, QQ, R, q, k⟩ => wpAny_Dict_empty (by
  have hb := I.big
  have hn : H s.heap.objs.size = none := I.hok.fresh (Nat.le_refl _)
  have hget := Heap.get?_push_size s.heap (o := ({ cls := .type "dict", data := .dict #[] } : Obj)) rfl
  refine ⟨.ref s.heap.objs.size, upd H s.heap.objs.size (ExD { cls := .type "dict", data := .dict #[] } s.heap.objs.size), I.laid (a := s.heap.objs.size) (t' := s.toks) (fun _ _ q => Heap.get?_push_of_some _ q) (Nat.le_refl _) ⟨hget, ⟨_, hget⟩, fun _ _ e k => k _ e⟩, rfl, ?_⟩
  have st : Step S H (sup S s.heap.objs.size (.dN [])) (upd H s.heap.objs.size (ExD { cls := .type "dict", data := .dict #[] } s.heap.objs.size)) := step_cell R.ok hn
  exact k _ _ (.ref s.heap.objs.size) _ st (ok_cell R.ok hn True.intro ⟨_, #[], 0, [], upd_same, ⟨rfl, rfl, rfl⟩, rfl, rfl, List.nodup_nil, beq_eq_false_iff_ne.mpr (Ne.symm (Nat.ne_of_lt hb)), Nat.zero_le _, by unfold RpN; rfl⟩) rp_ref (q _ (R.ok.new hn)))⟩
/-- d.setdefault(k, v) -/
def wSetdN (wo we wf : WE) : WE := fun ρ S Q => wo ρ S fun x S1 => ∃ a, x = .ref a ∧ (∃ kvs, S1 a = some (.dN kvs)) ∧ we ρ S1 fun y S2 => wf ρ S2 fun z S3 => ∃ kvs k ks, S3 a = some (.dN kvs) ∧ kN y = some k ∧ k = .tup ks ∧ k.depth ≤ 8 ∧ kvs.length < sizeLine ∧
  (∀ d, getN kvs k = some d → Q d S3) ∧ (getN kvs k = none → Q z (sup S3 a (.dN (putN kvs k z))))
theorem units8 {X : Cx} (hu : X.A.units + 64 < cLine) : (nestedKind X.prog X.w).room X.A.in1 := by
  show X.A.in1.units + 8 < cLine
  simp only [Around.in1_units]
  omega
theorem ae_setdN (hP : X.prog = B.K.P) (hw : X.w = B.K.w) (hu : X.A.units + 64 < cLine) (ho : AE B X o wo) (he : AE B X e we) (hf : AE B X f wf) (m : M2 X o "setdefault" apos e f cpos) : AE B X (.Call (.Attribute o "setdefault" apos) [e, f] [] cpos) (wSetdN wo we wf) := by
  refine ⟨fun pins s σ H QQ I ⟨ρ, S, Q, R, q, kk⟩ => ?_⟩
  refine wpAny_Call_method m.base m.few m.line PySem.F.plainAttrs_dict PySem.F.slot_dict_setdefault PySem.F.type_dict_setdefault (thn (ho.run pins s σ H (fun x H1 => ∃ d S1, Step S H S1 H1 ∧ Ok B.K S1 H1 ∧ Rp B.K S1 H1 d x ∧ _) I ⟨ρ, S, _, R, q, fun v H1 d S1 st ok rd q1 => ⟨d, S1, st, ok, rd, q1⟩⟩) fun u s1 ⟨x, H1, I1, rx, dx, S1, st1, ok1, rd1, a, ex, ⟨kvs0, hS0⟩, q1⟩ => ?_)
  subst ex
  obtain rfl := of_ref rd1
  obtain rfl : u = Value.ref a := rx
  obtain ⟨o0, es0, ep0, xs0, hh0, e01, e02, _, _, hsys, _, _⟩ := ok1.c a _ hS0
  have hget0 := (I1.hok a _ hh0).1
  refine ⟨⟨o0, hget0, e01.1⟩, fun b qb => ?_, ?_⟩
  · cases qb
    exact ⟨o0, hget0, e01.2.1⟩
  rw [m.trees]
  refine Calls.callWith_builtin rfl (Calls.evalArgs_plain (Calls.spliced_cons (thn (he.run pins s1 σ H1 (fun x H2 => ∃ d S2, Step S1 H1 S2 H2 ∧ Ok B.K S2 H2 ∧ Rp B.K S2 H2 d x ∧ _) I1 ⟨ρ, S1, _, R.step st1 ok1, q1, fun v H2 d S2 st ok rd q2 => ⟨d, S2, st, ok, rd, q2⟩⟩) fun iv s2 ⟨y, H2, I2, ry, dy, S2, st2, ok2, rd2, q2⟩ =>
    Calls.spliced_cons (thn (hf.run pins s2 σ H2 (fun x H3 => ∃ d S3, Step S2 H2 S3 H3 ∧ Ok B.K S3 H3 ∧ Rp B.K S3 H3 d x ∧ _) I2 ⟨ρ, S2, _, (R.step st1 ok1).step st2 ok2, q2, fun v H3 d S3 st ok rd q3 => ⟨d, S3, st, ok, rd, q3⟩⟩) fun fv s3 ⟨z, H3, I3, rz, dz, S3, st3, ok3, rd3, kvs, k, ks, hS, hk, hkt, hdp, hl, q3, q4⟩ => Calls.spliced_nil ?_))))
  have nk := kN_ok (rd2.step st3) hk
  subst hkt
  have nk' := nk
  unfold NkR at nk'
  obtain ⟨b, ws, ey, _⟩ := nk'
  subst ey
  obtain rfl : iv = Value.ref b := ry
  obtain ⟨oo, es, ep, xs, hh, e1, e2, e3, e4, e5, e6, rr⟩ := ok3.c a _ hS
  have dd := dn_at I3 hh e1 e2 e3 e4 rr hP hw
  have s123 := (st1.trans st2).trans st3
  have hkey : (nestedKind X.prog X.w).is s3.heap (.tup ks) b := ⟨nk_is I3.hok nk rfl, hdp⟩
  refine call_setdefault_heap (units8 hu) hkey e5 dd (fun p hp => ?_) (fun hn h' dd' hs => ?_) e6
  · rcases rr.get (k := .tup ks) with ⟨_, z2⟩ | ⟨d', p', v', z1, z2, z3, z4⟩
    · rw [hp] at z2; cases z2
    · rw [hp] at z2; cases z2
      exact ⟨v', H3, I3.tok _, z3, kk _ H3 d' S3 s123 ok3 z4 (q3 d' z1)⟩
  · rcases rr.get (k := .tup ks) with ⟨z1, _⟩ | ⟨d', p', v', z1, z2, z3, z4⟩
    · obtain ⟨H', st', ok', I'⟩ := dn_write (K := B.K) (kvs := putN kvs (.tup ks) dz) (t' := s3.toks + (nestedKind X.prog X.w).draws (.tup ks)) I3 ok3 hS (by rw [hh]; exact True.intro) e5 hs dd' (Nat.le_trans (storedH_len _ _ _ _) (by rw [← rr.len]; omega)) hP hw
        (fun S2' H2' st => (rr.step st).put (nk.step st) hdp rz (rd3.step st))
      exact ⟨z, H', I', rz, kk _ H' dz _ (s123.trans st') ok' (rd3.step st') (q4 z1)⟩
    · rw [hn] at z2; cases z2
end
end KR
set_option Elab.async false
set_option linter.all false
set_option maxRecDepth 100000
set_option maxHeartbeats 2000000
namespace KR
open PySem PySem.Spec PyProof.Rows L2
/-! ### a new list, as a tree or as a cell: the proof says which -/
def newLL (xs : List D) (S : Store) (Q : VQ) : Prop := Q (.lst xs) S ∨ ∀ p, S p = none → Q (.ref p) (sup S p (.lst xs))
theorem newLL_iff {xs : List D} {S : Store} {Q : VQ} : newLL xs S Q ↔ ∃ m, newL m xs S Q := ⟨fun h => h.elim (fun h => ⟨false, h⟩) fun h => ⟨true, h⟩, fun ⟨m, h⟩ => match m, h with | false, h => .inl h | true, h => .inr h⟩
def wEx (w : Bool → WE) : WE := fun ρ S Q => ∃ m, w m ρ S Q
def wOr (w w' : WE) : WE := fun ρ S Q => w ρ S Q ∨ w' ρ S Q
section
variable {B : Bs} {X : Cx} {e o f : Expr} {es : List Expr} {we wo wf : WE} {wa : WA} {pos apos cpos p : Pos}
theorem ae_ex {w : Bool → WE} (h : ∀ m, AE B X e (w m)) : AE B X e (wEx w) := ⟨fun pins s σ H Q I ⟨ρ, S, QQ, R, ⟨m, q⟩, k⟩ => (h m).run pins s σ H Q I ⟨ρ, S, QQ, R, q, k⟩⟩
theorem ae_or2 {w w' : WE} (h : AE B X e w) (h' : AE B X e w') : AE B X e (wOr w w') := ⟨fun pins s σ H Q I ⟨ρ, S, QQ, R, q, k⟩ => q.elim (fun q => h.run pins s σ H Q I ⟨ρ, S, QQ, R, q, k⟩) fun q => h'.run pins s σ H Q I ⟨ρ, S, QQ, R, q, k⟩⟩
theorem SR.ex {K : Kx} {r : R2} {o : Bool → W2} (h : ∀ m, SR K r (o m)) : SR K r (fun x y S Q => ∃ m, o m x y S Q) := fun x y d e S H Q k ok rx ry ⟨m, q⟩ hk => h m x y d e S H Q k ok rx ry q hk
theorem SC.ex {K : Kx} {r : List V → Hp → VK → Prop} {o : Bool → WC} (h : ∀ m, SC K r (o m)) : SC K r (fun ds S Q => ∃ m, o m ds S Q) := fun vs ds S H Q k ok rx ⟨m, q⟩ hk => h m vs ds S H Q k ok rx q hk
/-- + -/
def oAddB : W2 := fun x y S Q => match x, y with
  | .int i, .int j => Q (.int (i + j)) S
  | .str i, .str j => i.length + j.length ≤ sizeLine ∧ Q (.str (i ++ j)) S
  | .tup xs, .tup ys => xs.length + ys.length ≤ sizeLine ∧ Q (.tup (xs ++ ys)) S
  | x, y => match asX S x, asX S y with
    | some xs, some ys => xs.length + ys.length ≤ sizeLine ∧ newLL (xs ++ ys) S Q
    | _, _ => False
theorem sr_addB {K : Kx} : SR K (rAddAll K.K) oAddB := (SR.ex fun m => sr_add (m := m)).weak fun x y S Q h => by
  unfold oAddB at h
  split at h
  · exact ⟨false, by unfold oAdd; exact h⟩
  · exact ⟨false, by unfold oAdd; exact h⟩
  · exact ⟨false, by unfold oAdd; exact h⟩
  · rename_i n1 n2 n3
    split at h
    · rename_i xs ys e1 e2
      obtain ⟨h1, h2⟩ := h
      obtain ⟨m, h2⟩ := newLL_iff.mp h2
      refine ⟨m, ?_⟩
      unfold oAdd
      split
      · exact (n1 _ _ rfl rfl).elim
      · exact (n2 _ _ rfl rfl).elim
      · exact (n3 _ _ rfl rfl).elim
      · rw [e1, e2]; exact ⟨h1, h2⟩
    · exact h.elim
def oMulB : W2 := fun x y S Q => match x, y with
  | .int i, .int j => CMul i j ∧ Q (.int (i * j)) S
  | x, .int k => match asX S x with
    | some xs => (-(2 ^ 63) ≤ k ∧ k < 2 ^ 63 ∧ xs.length * k.toNat ≤ sizeLine) ∧ newLL (List.replicate k.toNat xs).flatten S Q
    | _ => False
  | _, _ => False
theorem sr_mulB {K : Kx} : SR K rMulAll oMulB := (SR.ex fun m => sr_mul (m := m)).weak fun x y S Q h => by
  unfold oMulB at h
  split at h
  · exact ⟨false, by unfold oMul; exact h⟩
  · rename_i n1
    split at h
    · rename_i xs e1
      obtain ⟨h1, h2⟩ := h
      obtain ⟨m, h2⟩ := newLL_iff.mp h2
      refine ⟨m, ?_⟩
      unfold oMul
      split
      · exact (n1 _ rfl).elim
      · rename_i e
        cases e
        rw [e1]; exact ⟨h1, h2⟩
      · rename_i n2
        first
          | exact (n2 _ rfl).elim
          | exact (n2 _ _ rfl rfl).elim
          | simp_all
    · exact h.elim
  · exact h.elim
/-- x[lo:hi] -/
def oSlB (x : D) (lo hi : Option Int) (S : Store) (Q : VQ) : Prop := match x with
  | .str z => z.length ≤ sizeLine ∧ Q (.str (cutS z lo hi)) S
  | x => match asL S x with
    | some xs => newLL (cutD xs lo hi) S Q
    | none => False
def wSlB (w : WE) (wl wh : WO) : WE := fun ρ S Q => w ρ S fun x S1 => wl ρ S1 fun lo S2 => wh ρ S2 fun hi S3 => oSlB x lo hi S3 Q
theorem ae_slB {lo hi : Option Expr} {wl wh : WO} {p2 : Pos} (hk : X.K = B.K.K) (he : AE B X e we) (hl : AO B X lo wl) (hh : AO B X hi wh) : AE B X (.Subscript e (.Slice lo hi none p2) pos) (wSlB we wl wh) :=
  PE.weak (pe_slice sl_all he hl hh) fun σ H K ⟨ρ, S, Q, r, q, k⟩ => ⟨ρ, S, _, r, q, fun v H1 d S1 st1 ok1 rd1 q1 => ⟨ρ, S1, _, r.step st1 ok1, q1, fun l H2 S2 st2 ok2 q2 =>
    ⟨ρ, S2, _, (r.step st1 ok1).step st2 ok2, q2, fun u H3 S3 st3 ok3 q3 => by
      have rd := (rd1.step st2).step st3
      have kk : KK B.K S3 H3 Q K := fun v' H' d' S' st' ok' rd' q' => k v' H' d' S' (((st1.trans st2).trans st3).trans st') ok' rd' q'
      unfold oSlB at q3
      split at q3
      · exact .inr ⟨_, of_str rd, q3.1, kk.here ok3 rp_str q3.2⟩
      · split at q3
        · rename_i xs hx
          obtain ⟨p, vs, rfl, h1, r1⟩ := asL_ok ok3 rd hx
          obtain ⟨m, q3⟩ := newLL_iff.mp q3
          refine .inl ⟨p, vs, rfl, by rw [hk]; exact h1, newL_ok ok3 (cutD_rps r1 l u) (Nat.le_trans (cutV_length _ _ _) (sql_len ok3 h1)) q3 kk⟩
        · exact q3.elim⟩⟩⟩
/-- [..] -/
def wLstB (wa : WA) : WE := fun ρ S Q => wa ρ S fun ds S1 => ds.length ≤ sizeLine ∧ newLL ds S1 Q
theorem ae_lstB {wr : WA} (h : AA B X es wr) : AE B X (.List es pos) (wLstB wr) := PE.weak (pe_lst h) fun σ H K ⟨ρ, S, Q, R, q, k⟩ => ⟨ρ, S, _, R, q, fun vs H1 ds S1 st ok rd q1 => by
  obtain ⟨h1, h2⟩ := q1
  obtain ⟨m, h2⟩ := newLL_iff.mp h2
  have hz : vs.length ≤ sizeLine := by rw [← rd.length]; exact h1
  exact ⟨hz, newL_ok ok rd hz h2 (k.back st)⟩⟩
/-- list(x) -/
def oListB : WC := fun ds S Q => ∃ x xs, ds = [x] ∧ asQ S x xs ∧ newLL xs S Q
theorem sc_listB {K : Kx} : SC K (fun xs H Q => ∃ p ys, xs = [.ref p] ∧ (SqL K.K H p ys ∨ SqT K.K H p ys) ∧ ∀ l, H l = none → Q (.ref l) (upd H l (.lst ys))) oListB := fun vs ds S H Q k ok r ⟨x, xs, e, h1, h2⟩ hk => by
  obtain ⟨m, h2⟩ := newLL_iff.mp h2
  exact sc_listQ (m := m) vs ds S H Q k ok r ⟨x, xs, e, h1, h2⟩ hk
/-! ### tuple(x), of which it is known that it has no dict -/
def rTupZ (K : PySem.W.Frag) : List V → Hp → VK → Prop := fun xs H Q => ∃ p ys, xs = [.ref p] ∧ ((SqL K H p ys ∧ ∀ l o, H l = none → o.dict = none → Q (.ref l) (upd H l (.frz o (.tup ys)))))
theorem call_tupZ : CallR X (.type "tuple") (rTupZ X.K) := by
  intro pins s σ H xs us Q I r h
  obtain ⟨p, ys, rfl, hq, q⟩ := h
  obtain ⟨u, rfl, rx⟩ := vals1 r
  cases rx
  obtain ⟨its, r', pl, hz⟩ := I.list hq
  have hlen := r'.length
  refine call_tuple_list pl.isList (fun h' kp => ?_) (by simp only [List.size_toArray] <;> omega)
  have I1 : Inv X pins σ H { s with heap := h' } := I.kept (t' := s.toks) kp
  have I2 : Inv X pins σ (upd H h'.objs.size (.frz { cls := .type "tuple", data := .seq its.toArray } (.tup ys))) { s with heap := h'.push { cls := .type "tuple", data := .seq its.toArray } } :=
    I1.laid (t' := s.toks) (fun b o e => Heap.get?_push_of_some _ e) (Nat.le_refl _) ⟨Heap.get?_push_size _ rfl, show ObjOk X.prog X.w _ _ _ (.tup ys) from ⟨hz, its, r', IsTup.new _ _⟩⟩
  exact ⟨.ref h'.objs.size, _, I2, rfl, q _ _ (I1.hok.fresh (Nat.le_refl _)) rfl⟩
/-- tuple(x): plainly a tuple, or a tuple without a dict -/
def oTupleB : WC := fun ds S Q => (∃ x xs, ds = [x] ∧ ((asL S x = some xs ∧ Q (.tup xs) S) ∨ (asT x = some xs ∧ Q x S))) ∨ ∃ x xs, ds = [x] ∧ asL S x = some xs ∧ Q (.tupz xs) S
def rTupB (K : PySem.W.Frag) : List V → Hp → VK → Prop := fun xs H Q => (∃ p ys, xs = [.ref p] ∧ ((SqL K H p ys ∧ ∀ l, H l = none → Q (.ref l) (upd H l (.tup ys))) ∨ (SqT K H p ys ∧ Q (.ref p) H))) ∨ rTupZ K xs H Q
theorem call_tupB : CallR X (.type "tuple") (rTupB X.K) := CallR.or call_tuple_of call_tupZ
theorem sc_tupB {K : Kx} : SC K (rTupB K.K) oTupleB := fun vs ds S H Q k ok r q hk => by
  rcases q with q | ⟨x, xs, rfl, hx, q⟩
  · exact .inl (sc_tuple vs ds S H Q k ok r q hk)
  · obtain ⟨v, rfl, rv⟩ := r.one
    obtain ⟨a, us, rfl, g, r1⟩ := asL_ok ok rv hx
    refine .inr ⟨a, us, rfl, g, fun l o hl ho => ?_⟩
    have st := step_new ok hl (o := .frz o (.tup us))
    exact hk _ _ (.tupz xs) S st (ok_new ok hl (show us.length ≤ sizeLine from sql_len ok g)) (by unfold Rp; exact ⟨l, o, us, rfl, ok.new hl, upd_same, ho, Rps.step st r1⟩) q
/-- t.count(x) -/
def wTCount (wo we : WE) : WE := fun ρ S Q => wo ρ S fun x S1 => ∃ xs, x = .tupz xs ∧ we ρ S1 fun y S2 => flatD y = true ∧ xs.all flatD = true ∧ Q (.int (xs.countP fun z => eqF z y : Nat)) S2
theorem ae_tcount (ho : AE B X o wo) (he : AE B X e we) (m : M1 X o "count" apos e cpos) : AE B X (.Call (.Attribute o "count" apos) [e] [] cpos) (wTCount wo we) := by
  refine ⟨fun pins s σ H QQ I ⟨ρ, S, Q, R, q, kk⟩ => ?_⟩
  refine wpAny_Call_method m.base m.few m.line PySem.F.plainAttrs_tuple PySem.F.slot_tuple_count PySem.F.type_tuple_count (thn (ho.run pins s σ H (fun x H1 => ∃ d S1, Step S H S1 H1 ∧ Ok B.K S1 H1 ∧ Rp B.K S1 H1 d x ∧ _) I ⟨ρ, S, _, R, q, fun v H1 d S1 st ok rd q1 => ⟨d, S1, st, ok, rd, q1⟩⟩) fun u s1 ⟨x, H1, I1, rx, dx, S1, st1, ok1, rd1, xs, ex, q1⟩ => ?_)
  subst ex
  unfold Rp at rd1
  obtain ⟨a, o0, vs, rfl, hs0, hh0, hod, r0⟩ := rd1
  obtain rfl : u = Value.ref a := rx
  obtain ⟨hget, _, its0, rv0, oo, g1, g2, n0, g3⟩ := (show ObjOk X.prog X.w H1 s1.heap a (.frz o0 (.tup vs)) from I1.hok a _ hh0)
  have eoo : oo = o0 := by rw [hget] at g1; exact (Option.some.inj g1).symm
  subst eoo
  refine ⟨⟨oo, hget, g2⟩, fun b qb => ?_, ?_⟩
  · cases qb
    exact ⟨oo, hget, hod⟩
  rw [m.trees]
  refine Calls.callWith_builtin rfl (Calls.evalArgs_plain (Calls.spliced_cons (thn (he.run pins s1 σ H1 (fun x H2 => ∃ d S2, Step S1 H1 S2 H2 ∧ Ok B.K S2 H2 ∧ Rp B.K S2 H2 d x ∧ _) I1 ⟨ρ, S1, _, R.step st1 ok1, q1, fun v H2 d S2 st ok rd q2 => ⟨d, S2, st, ok, rd, q2⟩⟩) fun iv s2 ⟨y, H2, I2, ry, dy, S2, st2, ok2, rd2, fy, fs, q2⟩ => Calls.spliced_nil ?_)))
  have hh2 := (st2 a _ hs0 hh0).2
  obtain ⟨hget2, hz2, its, rv, o2, k1, k2, n2, k3⟩ := (show ObjOk X.prog X.w H2 s2.heap a (.frz oo (.tup vs)) from I2.hok a _ hh2)
  have e2 : o2 = oo := by rw [hget2] at k1; exact (Option.some.inj k1).symm
  subst e2
  obtain ⟨cls, dd, data, sl⟩ := o2
  simp only at k2 k3
  subst k2 k3
  have r2 := Rps.step st2 r0
  have fy' := flat_rp fy rd2
  have fs' := flats_rp fs r2
  refine call_meets PySem.F.slot_tuple_count ⟨_, hget2, rfl⟩ PySem.F.entry_tuple_count (PySem.F.args_tuple_count_2 _ _) (SeqAt.tuple_countAt a its.toArray n2 dd sl iv (eqU y)) ⟨hget2, fun z hz => mem_eqAt ry fy' rv fs' z (by simpa using hz), ?_⟩
  have e := count_eqU (x := y) rv fs'
  refine ⟨.int (vs.countP fun z => eqV z y : Nat), H2, I2.tok _, ⟨s2.toks, by rw [← e]⟩, ?_⟩
  rw [countF_rp fy rd2 fs r2]
  exact kk _ H2 _ S2 (st1.trans st2) ok2 rp_int q2
/-! ### isinstance -/
def rIsiE (K : PySem.W.Frag) : List V → Hp → VK → Prop := fun xs H Q => ∃ a o vs C c u b, xs = [.ref a, c] ∧ ClsV c u ∧ H a = some (ExD o a) ∧ o.cls = .ref C ∧ o.data = .fields vs ∧ (o.dict = none ∨ ∃ dx fs, o.dict = some dx ∧ H dx = some (.xd fs)) ∧ ExC K C ∧ PySem.W.kitOne K (.ref C) u = some b ∧ Q (.bl b) H
theorem inst_exc {pins : List (Addr × Obj)} {σ : St} {H : Hp} {s : Shared} {a C : Addr} {o : Obj} {vs : Array Value} (I : Inv X pins σ H s) (h : H a = some (ExD o a)) (hc : o.cls = .ref C) (hd : o.data = .fields vs) (hdx : o.dict = none ∨ ∃ dx fs, o.dict = some dx ∧ H dx = some (.xd fs)) :
    ∃ od, PySem.W.InstAt s.heap a o C od ∧ ∀ dx fs, o.dict = some dx → H dx = some (.xd fs) → ∃ (oo : Obj) (mA : Str → Option Value), od = some oo ∧ (∀ n, PySem.W.lookIn n oo = some (mA n)) ∧ ∀ f, RelO (fs.lookup f) (mA f) := by
  have ha := (I.hok a _ h).1
  rcases hdx with e | ⟨dx, fs, e, hx⟩
  · exact ⟨none, ⟨ha, hc, by unfold PySem.W.notCls; rw [hd] <;> rfl, by rw [e]; trivial⟩, fun dx fs e' _ => by rw [e] at e'; cases e'⟩
  · have hx' : ObjOk X.prog X.w H s.heap dx (.xd fs) := I.hok dx _ hx
    obtain ⟨mA, hns, hr⟩ := hx'
    obtain ⟨oo, ho, hl⟩ := lookIn_ns hns
    refine ⟨some oo, ⟨ha, hc, by unfold PySem.W.notCls; rw [hd] <;> rfl, by rw [e]; exact ho⟩, fun dx' fs' e' hx2 => ?_⟩
    rw [e] at e'
    cases e'
    rw [hx] at hx2
    cases hx2
    exact ⟨oo, mA, rfl, hl, hr⟩
theorem call_isiE : CallR X (.builtin "isinstance") (rIsiE X.K) := by
  intro pins s σ H xs us Q I r h
  obtain ⟨a, o, vs, C, c, u, b, rfl, k, hh, hc, hd, hdx, T, e, q⟩ := h
  obtain ⟨u1, u2, rfl, r1, r2⟩ := vals2 r
  have e2 := k.eq r2
  subst e2
  obtain rfl : u1 = Value.ref a := r1
  obtain ⟨od, J, _⟩ := inst_exc I hh hc hd hdx
  exact PySem.W.kia_one (PySem.W.kitx_exc (od := od) (ox := o) T.cl T.ga T.gg T.sb T.ha T.hn T.ht T.hm) I.kIn J e (fun z => nomatch z) fun tk => ⟨.bl b, H, I.tok tk, rfl, q⟩
def clsD : D → Option Value
  | .raw (.ty U) => some (.type U)
  | .ref C => some (.ref C)
  | _ => none
theorem clsD_ok {K : Kx} {S : Store} {H : Hp} {d : D} {v : V} {u : Value} (r : Rp K S H d v) (h : clsD d = some u) : ClsV v u := by
  unfold clsD at h
  split at h
  · cases h
    rename_i U
    have e : v = .ty U := by unfold Rp at r; exact r
    subst e
    exact .ty _
  · cases h
    rw [of_ref r]; exact .own _
  · cases h
def oIsiB (K : Kx) : WC := fun ds S Q => (∃ x T c u b, ds = [x, c] ∧ clsD c = some u ∧ tyD S x T ∧ PySem.W.kitOne K.K (.type T) u = some b ∧ Q (.bl b) S) ∨
  ∃ C fs c u b, ds = [.exc C fs, c] ∧ clsD c = some u ∧ ExC K.K C ∧ PySem.W.kitOne K.K (.ref C) u = some b ∧ Q (.bl b) S
def rIsiB (K : PySem.W.Frag) : List V → Hp → VK → Prop := fun xs H Q => rIsi K xs H Q ∨ rIsiE K xs H Q
theorem call_isiB : CallR X (.builtin "isinstance") (rIsiB X.K) := CallR.or call_isi call_isiE
theorem exc_rp {K : Kx} {S : Store} {H : Hp} {C : Addr} {fs : List (Str × D)} {v : V} (h : Rp K S H (.exc C fs) v) : ∃ a o vs, v = .ref a ∧ H a = some (ExD o a) ∧ o.cls = .ref C ∧ o.data = .fields vs ∧ ((fs = [] ∧ o.dict = none) ∨ ∃ dx r, o.dict = some dx ∧ S dx = none ∧ H dx = some (.xd r) ∧ RpF K S H fs r) := by
  unfold Rp at h
  obtain ⟨a, o, vs, e, hs, hh, e1, e2, h⟩ := h
  exact ⟨a, o, vs, e, hh, e1, e2, h⟩
theorem sc_isiB {K : Kx} : SC K (rIsiB K.K) (oIsiB K) := by
  intro vs ds S H Q k ok r q hk
  rcases q with ⟨x, T, c, w, b, rfl, hcl, ht, hkit, q⟩ | ⟨C, fs, c, w, b, rfl, hcl, T, hkit, q⟩
  · obtain ⟨v, u, rfl, rv, ru⟩ := r.two
    exact .inl ⟨v, _, _, _, b, rfl, clsD_ok ru hcl, tyD_ok ok rv ht, hkit, hk.here ok rp_bl q⟩
  · obtain ⟨v, u, rfl, rv, ru⟩ := r.two
    obtain ⟨a, o, vs, rfl, hh, e1, e2, h⟩ := exc_rp rv
    refine .inr ⟨a, o, vs, C, u, w, b, rfl, clsD_ok ru hcl, hh, e1, e2, ?_, T, hkit, hk.here ok rp_bl q⟩
    rcases h with ⟨_, h⟩ | ⟨dx, r', h1, _, h2, _⟩
    · exact .inl h
    · exact .inr ⟨dx, r', h1, h2⟩
/-- e.f of what was caught -/
def wXGet (K : Kx) (f : Str) (we : WE) : WE := fun ρ S Q => we ρ S fun x S1 => ∃ C fs d, x = .exc C fs ∧ fs ≠ [] ∧ ExC K.K C ∧ PySem.W.findIn K.K (.ref C) f = some none ∧ fs.lookup f = some d ∧ Q d S1
theorem ae_xget {n : Str} (hk : X.K = B.K.K) (he : AE B X e we) (hb : attributeBase e n X.env (eval e X.env) = eval e X.env := by rfl) : AE B X (.Attribute e n pos) (wXGet B.K n we) := by
  refine ⟨fun pins s σ H QQ I ⟨ρ, S, Q, R, q, kk⟩ => ?_⟩
  refine attr_of hb (thn (he.run pins s σ H (fun x H1 => ∃ d S1, Step S H S1 H1 ∧ Ok B.K S1 H1 ∧ Rp B.K S1 H1 d x ∧ _) I ⟨ρ, S, _, R, q, fun v H1 d S1 st ok rd q1 => ⟨d, S1, st, ok, rd, q1⟩⟩) fun u s1 ⟨x, H1, I1, rx, dx, S1, st1, ok1, rd1, C, fs, d, ex, hne, T, hno, hl, q1⟩ => ?_)
  subst ex
  obtain ⟨a, o, vs, rfl, hh, e1, e2, h⟩ := exc_rp rd1
  obtain rfl : u = Value.ref a := rx
  rcases h with ⟨h, _⟩ | ⟨dd, r', h1, h3, h2, rr⟩
  · exact absurd h hne
  · obtain ⟨od, J, hJ⟩ := inst_exc I1 hh e1 e2 (.inr ⟨dd, r', h1, h2⟩)
    obtain ⟨oo, mA, rfl, hlook, hrel⟩ := hJ dd r' h1 h2
    obtain ⟨v, hv, rv⟩ := RA.lookup (RpF_iff.mp rr) hl
    obtain ⟨u, hu, ru⟩ := RelO.some_of (v := v) (o := mA n) (by rw [← hv]; exact hrel n)
    rw [← hk] at hno T
    exact HandSPX.exc_get I1.kIn J T.ga T.gg T.sb (PySem.W.findObj_own T.hd hno rfl (by rw [hlook, hu])) (handed_of ru) ⟨v, H1, I1.tok _, ru, kk v H1 d S1 st1 ok1 rv q1⟩
/-! ### text.split(sep) -/
def mSplit : WM := fun x ds S Q => ∃ a b, x = .str a ∧ ds = [.str b] ∧ (b.length == 0) = false ∧ a.length + 2 ≤ sizeLine ∧ newLL ((Txt.split a b).map .str) S Q
theorem sm_split {K : Kx} : SM K (fun x xs H Q => ∃ a b, x = .str a ∧ xs = [.str b] ∧ (b.length == 0) = false ∧ a.length + 2 ≤ sizeLine ∧ rNewStrs (Txt.split a b) H Q) mSplit := by
  intro x vs d ds S H Q k ok rx rs ⟨a, b, e, e2, h1, h2, q⟩ hk
  subst e e2
  obtain ⟨v, rfl, rv⟩ := rs.one
  obtain ⟨m, q⟩ := newLL_iff.mp q
  refine ⟨a, b, of_str rx, by rw [of_str rv], h1, h2, ?_⟩
  have rr : Rps K S H ((Txt.split a b).map .str) ((Txt.split a b).map V.str) := by
    induction Txt.split a b with
    | nil => exact Rps.nil
    | cons z zs ih => exact Rps.cons rp_str ih
  exact newL_ok ok rr (by rw [List.length_map]; exact Nat.le_trans (PyProof.Rows.split_le a b) h2) q hk
/-! ### {k: v, ..} -/
def wPairs : List (WE × WE) → AR → Store → (List (D × D) → Store → Prop) → Prop
  | [], _, S, Q => Q [] S
  | (wk, wv) :: r, ρ, S, Q => wk ρ S fun x S1 => wv ρ S1 fun y S2 => wPairs r ρ S2 fun ps S3 => Q ((x, y) :: ps) S3
def twp (B : Bs) (ws : List (WE × WE)) : List (TE × TE) := ws.map fun q => (tw B q.1, tw B q.2)
abbrev APs (B : Bs) (X : Cx) (pos : Pos) (keys : List (Option Expr)) (values : List Expr) (ws : List (WE × WE)) : Prop := PPs X pos keys values (twp B ws)
theorem aps_nil : APs B X pos [] [] [] := pps_nil
theorem aps_cons {k v : Expr} {ks : List (Option Expr)} {vs : List Expr} {wk wv : WE} {ws : List (WE × WE)} (hk : AE B X k wk) (hv : AE B X v wv) (hr : APs B X pos ks vs ws) : APs B X pos (some k :: ks) (v :: vs) ((wk, wv) :: ws) := pps_cons hk hv hr
def DDs (K : Kx) (S : Store) (H : Hp) (ds : List (D × D)) (ps : List (V × V)) : Prop := Paired (fun d p => Rp K S H d.1 p.1 ∧ Rp K S H d.2 p.2) ds ps
theorem tp_ok : ∀ {ws : List (WE × WE)} {ρ : AR} {S : Store} {σ : St} {H : Hp} {Q : List (D × D) → Store → Prop} {QQ : List (V × V) → Hp → Prop}, Rel B ρ S σ H → wPairs ws ρ S Q →
    (∀ ps H' ds S', Step S H S' H' → Ok B.K S' H' → DDs B.K S' H' ds ps → Q ds S' → QQ ps H') → tPairs (twp B ws) σ H QQ
  | [], ρ, S, σ, H, Q, QQ, R, q, k => k [] H [] S Step.refl R.ok .nil q
  | (wk, wv) :: ws, ρ, S, σ, H, Q, QQ, R, q, k => ⟨ρ, S, _, R, q, fun x H1 dx S1 st1 ok1 rd1 q1 => ⟨ρ, S1, _, R.step st1 ok1, q1, fun y H2 dy S2 st2 ok2 rd2 q2 =>
      tp_ok ((R.step st1 ok1).step st2 ok2) q2 fun ps H3 ds S3 st3 ok3 rr q3 => k _ H3 _ S3 ((st1.trans st2).trans st3) ok3 (.cons ⟨(rd1.step st2).step st3, rd2.step st3⟩ rr) q3⟩⟩
def dispK (kvs : List (Key × D)) : List (Key × D) := kvs.foldl (fun acc kv => putD acc kv.1 kv.2) []
def wDisp (ws : List (WE × WE)) : WE := fun ρ S Q => ∀ p, S p = none → wPairs ws ρ (sup S p (.dK [])) fun ds S2 => S2 p = some (.dK []) ∧ ∃ kvs : List (Key × D), ds = kvs.map (fun kv => (kD kv.1, kv.2)) ∧ kvs.length ≤ 15 ∧ Q (.ref p) (sup S2 p (.dK (dispK kvs)))
theorem dds_kvs {K : Kx} {S : Store} {H : Hp} : ∀ {kvs : List (Key × D)} {ps : List (V × V)}, DDs K S H (kvs.map fun kv => (kD kv.1, kv.2)) ps → ∃ r : List (Key × V), ps = r.map (fun kv => (kV kv.1, kv.2)) ∧ RA K S H kvs r
  | [], _, h => by cases h; exact ⟨[], rfl, by unfold RA; rfl⟩
  | (k, d) :: kvs, _, h => by
    rw [List.map_cons] at h
    cases h with
    | @cons _ p _ ps h t =>
      obtain ⟨r, e, hr⟩ := dds_kvs t
      obtain ⟨p1, p2⟩ := p
      refine ⟨(k, p2) :: r, ?_, by unfold RA; exact ⟨p2, r, rfl, h.2, hr⟩⟩
      rw [List.map_cons, ← e, ← of_kD h.1]
theorem RA.fold {K : Kx} {S : Store} {H : Hp} : ∀ {kvs : List (Key × D)} {r : List (Key × V)} {acc : List (Key × D)} {ra : List (Key × V)}, RA K S H kvs r → RA K S H acc ra →
    RA K S H (kvs.foldl (fun acc kv => putD acc kv.1 kv.2) acc) (r.foldl (fun acc kv => putK acc kv.1 kv.2) ra)
  | [], _, _, _, h, g => by unfold RA at h; subst h; exact g
  | (k, d) :: kvs, _, _, _, h, g => by
    unfold RA at h
    obtain ⟨v, r', rfl, h1, h2⟩ := h
    exact RA.fold (kvs := kvs) (r := r') h2 (g.put h1)
theorem RA.step {κ : Type} {K : Kx} {S S' : Store} {H H' : Hp} (st : Step S H S' H') : ∀ {kvs : List (κ × D)} {r : List (κ × V)}, RA K S H kvs r → RA K S' H' kvs r
  | [], _, h => by unfold RA at h ⊢; exact h
  | (k, d) :: kvs, _, h => by
    unfold RA at h ⊢
    obtain ⟨v, r', e, h1, h2⟩ := h
    exact ⟨v, r', e, h1.step st, RA.step st h2⟩
theorem ae_disp {keys : List (Option Expr)} {values : List Expr} {ws : List (WE × WE)} (h : APs B X pos keys values ws) (hall : keys.all (·.isSome) = true := by rfl) (hl : keys.length = values.length := by rfl) (h0 : keys ≠ [] := by intro z; cases z) (h15 : keys.length ≤ 15 := by decide) :
    AE B X (.Dict keys values pos) (wDisp ws) := PE.weak (pe_disp h hall hl h0 h15) fun σ H K ⟨ρ, S, Q, R, q, k⟩ p hp => by
  have sp := R.ok.new hp
  have st := step_cell R.ok hp (o := .dK []) (c := .dK [])
  have ok1 : Ok B.K (sup S p (.dK [])) (upd H p (.dK [])) := ok_cell R.ok hp (o := .dK []) (c := .dK []) True.intro ⟨[], upd_same, by unfold RpK; rfl⟩
  refine tp_ok (R.step st ok1) (q p sp) fun ps H2 ds S2 st2 ok2 rr ⟨hS, kvs, e, hl2, q2⟩ => ?_
  subst e
  obtain ⟨r, e, hr⟩ := dds_kvs rr
  obtain ⟨r0, hh, rz⟩ := ok2.c p _ hS
  have e0 : r0 = [] := by unfold RpK at rz; exact rz
  subst e0
  refine ⟨hh, r, e, by rw [← hr.length]; exact hl2, ?_⟩
  have st3 := step_put (o := .dK (mergeK [] r)) (c := .dK (dispK kvs)) (H := H2) hS
  have ok3 := ok_put ok2 hS (o := .dK (mergeK [] r)) (c := .dK (dispK kvs)) True.intro ⟨_, upd_same, RpK_iff.mpr ((RA.fold hr (by unfold RA; rfl)).step st3)⟩
  exact k _ _ _ _ ((st.trans st2).trans st3) ok3 rp_ref q2
/-! ### {} of the kind that is wanted -/
def wNewD : WE := fun _ S Q => (∀ a, S a = none → Q (.ref a) (sup S a (.dK []))) ∨ (∀ a, S a = none → Q (.ref a) (sup S a (.dT []))) ∨ ∀ a, S a = none → Q (.ref a) (sup S a (.dN []))
theorem ae_newD : AE B X (.Dict [] [] pos) wNewD := ⟨fun pins s σ H Q I ⟨ρ, S, QQ, R, q, k⟩ => by
  rcases q with q | q | q
  · refine pe_dnewK.run pins s σ H Q I fun p hp => ?_
    exact k _ _ _ _ (step_cell R.ok hp (o := .dK []) (c := .dK [])) (ok_cell R.ok hp (o := .dK []) (c := .dK []) True.intro ⟨[], upd_same, by unfold RpK; rfl⟩) rp_ref (q p (R.ok.new hp))
  · refine pe_dnewT.run pins s σ H Q I fun p hp => ?_
    exact k _ _ _ _ (step_cell R.ok hp (o := .dT []) (c := .dT [])) (ok_cell R.ok hp (o := .dT []) (c := .dT []) True.intro ⟨[], upd_same, by unfold RpT; rfl⟩) rp_ref (q p (R.ok.new hp))
  · exact ae_newN.run pins s σ H Q I ⟨ρ, S, QQ, R, q, k⟩⟩
/-! ### len -/
def rLenN (P : Program) (w : World) : List V → Hp → VK → Prop := fun vs H Q => ∃ a xs, vs = [.ref a] ∧ (∀ h, HOk P w H h → h.DictOfH (nestedKind P w) a xs) ∧ (a == sysModules) = false ∧ xs.length ≤ sizeLine ∧ Q (.int (xs.length : Nat)) H
theorem call_lenN : CallR X (.builtin "len") (rLenN X.prog X.w) := by
  intro pins s σ H vs us Q I r h
  obtain ⟨a, xs, rfl, dd, hsys, hz, q⟩ := h
  obtain rfl := Vals.ref1 r
  have line := line63
  exact PySem.call_len_dictH hsys (dd _ I.hok) (by omega) ⟨.int xs.length, H, I.tok _, ⟨_, rfl⟩, q⟩
def oLenN : WC := fun ds S Q => ∃ a kvs, ds = [.ref a] ∧ S a = some (.dN kvs) ∧ Q (.int (kvs.length : Nat)) S
theorem sc_lenN {K : Kx} : SC K (rLenN K.P K.w) oLenN := by
  intro vs ds S H Q k ok r ⟨a, kvs, e, hS, q⟩ hk
  subst e
  obtain ⟨v, rfl, rv⟩ := r.one
  obtain ⟨o, es, ep, xs, hh, e1, e2, e3, e4, e5, e6, rr⟩ := ok.c a _ hS
  rw [of_ref rv]
  refine ⟨a, xs, rfl, fun h hok => ?_, e5, e6, by rw [← rr.len]; exact hk.here ok rp_int q⟩
  exact ⟨o, es, ep, (hok a _ hh).1, e1, e2, e3, rr.all hok, e4⟩
/-- len of anything -/
def oLenB : WC := fun ds S Q => oLen ds S Q ∨ oLenN ds S Q
def rLenB (K : PySem.W.Frag) (P : Program) (w : World) : List V → Hp → VK → Prop := fun xs H Q => rLenAll K xs H Q ∨ rLenN P w xs H Q
theorem call_lenB : CallR X (.builtin "len") (rLenB X.K X.prog X.w) := CallR.or cr_lenAll call_lenN
theorem sc_lenB {K : Kx} : SC K (rLenB K.K K.P K.w) oLenB := SC.or sc_len sc_lenN
/-! ### return, a cell given up perhaps -/
/-- fewer cells -/
def Sub (S2 S1 : Store) : Prop := ∀ b, S2 b = S1 b ∨ S2 b = none
theorem Sub.refl {S : Store} : Sub S S := fun _ => .inl rfl
theorem Sub.step {S2 S1 : Store} (h : Sub S2 S1) {H : Hp} : Step S1 H S2 H := fun a o h1 h2 => ⟨(h a).elim (fun e => e.trans h1) id, h2⟩
theorem Sub.ok {K : Kx} {S2 S1 : Store} {H : Hp} (h : Sub S2 S1) (ok : Ok K S1 H) : Ok K S2 H := ⟨fun a c e => by
  have e2 : S1 a = some c := by
    rcases h a with q | q
    · rw [← q]; exact e
    · rw [q] at e; cases e
  exact COk.move h.step (fun _ q => q) (ok.c a c e2), ok.z⟩
def wForget (we : WE) : WE := fun ρ S Q => we ρ S fun d S1 => ∃ S2, Sub S2 S1 ∧ Q d S2
theorem ae_forget (he : AE B X e we) : AE B X e (wForget we) := PE.weak he fun σ H K ⟨ρ, S, Q, R, q, k⟩ => ⟨ρ, S, _, R, q, fun v H1 d S1 st ok rd ⟨S2, hs, q1⟩ => k v H1 d S2 (st.trans hs.step) (hs.ok ok) (rd.step hs.step) q1⟩
def wRetF (we : WE) : WS := fun E ρ S => we ρ S fun d S1 => ∃ S2, Sub S2 S1 ∧ (E.rt d S2 ∨ frz1 d S2 E.rt ∨ frzD d S2 E.rt)
def wFrzO (we : WE) : WE := fun ρ S Q => we ρ S fun d S1 => Q d S1 ∨ frz1 d S1 Q ∨ frzD d S1 Q
def tFO (we : WE) (B : Bs) : TE := fun σ H Q => tw B we σ H Q
theorem ae_frzO (he : AE B X e we) : AE B X e (wFrzO we) := by
  refine ⟨fun pins s σ H QQ I ⟨ρ, S, Q, R, q, kk⟩ => ?_⟩
  refine thn (he.run pins s σ H (fun x H1 => ∃ d S1, Step S H S1 H1 ∧ Ok B.K S1 H1 ∧ Rp B.K S1 H1 d x ∧ _) I ⟨ρ, S, _, R, q, fun v H1 d S1 st ok rd q1 => ⟨d, S1, st, ok, rd, q1⟩⟩) fun u s1 ⟨x, H1, I1, rx, d, S1, st, ok, rd, q1⟩ => ?_
  rcases q1 with q1 | q1 | q1
  · exact ⟨x, H1, I1, rx, kk x H1 d S1 st ok rd q1⟩
  · exact ⟨x, H1, I1, rx, frz1_ok ok rd q1 (kk.back st)⟩
  · obtain ⟨a, rfl, h⟩ := q1
    obtain rfl := of_ref rd
    rcases h with ⟨kvs, hs, q1⟩ | ⟨kvs, hs, q1⟩
    · obtain ⟨r, hh, rr⟩ := ok.c a _ hs
      obtain ⟨od, I2⟩ := I1.lock hh True.intro
      obtain ⟨st2, ok2⟩ := ok_lock ok hs (o := .frz od (.dK r)) True.intro
      exact ⟨_, _, I2, rx, kk _ _ (.dK kvs) _ (st.trans st2) ok2 (by unfold Rp; exact ⟨a, od, r, rfl, sdel_same, upd_same, RpK.step st2 rr⟩) q1⟩
    · obtain ⟨r, hh, rr⟩ := ok.c a _ hs
      obtain ⟨od, I2⟩ := I1.lock hh True.intro
      obtain ⟨st2, ok2⟩ := ok_lock ok hs (o := .frz od (.dT r)) True.intro
      exact ⟨_, _, I2, rx, kk _ _ (.dT kvs) _ (st.trans st2) ok2 (by unfold Rp; exact ⟨a, od, r, rfl, sdel_same, upd_same, RpT.step st2 rr⟩) q1⟩
theorem as_retF (he : AE B X e we) : AS B X (.Return (some e) pos) (wRetF we) := as_ret (ae_frzO (ae_forget he))
end
/-! ### calls with keywords alone, or behind places -/
section
variable {B : Bs} {X : Cx} {k n : Nat} {f C : Addr} {fd : FuncData} {ps ks : List Str} {A : ASp} {x m : Str} {p pos apos : Pos} {e o : Expr} {es : List Expr} {kws : List Keyword} {wo : WE} {wa wk : WA} {Wx : XQ}
abbrev AK (B : Bs) (X : Cx) (kws : List Keyword) (w : WA) : Prop := PK X kws (twa B w)
theorem PK.weak {X : Cx} {es : List Keyword} {t t' : TA} (h : PK X es t) (i : ∀ σ H K, t' σ H K → t σ H K) : PK X es t' := ⟨fun pos pins s σ H Q I q => h.run pos pins s σ H Q I (i _ _ _ q)⟩
theorem ak_nil : AK B X [] waNil := PK.weak pk_nil fun σ H K ⟨ρ, S, Q, R, q, k⟩ => k [] H [] S Step.refl R.ok Rps.nil q
theorem ak_cons {we : WE} {wr : WA} {nm : Option Str} {kpos : Pos} (he : AE B X e we) (hr : AK B X kws wr) : AK B X (⟨nm, e, kpos⟩ :: kws) (waCons we wr) :=
  PK.weak (pk_cons he hr) fun σ H K ⟨ρ, S, Q, R, q, k⟩ => ⟨ρ, S, _, R, q, fun v H1 d S1 st ok rd q1 => ⟨ρ, S1, _, R.step st ok, q1, fun vs H2 ds S2 st2 ok2 r2 q2 =>
    k _ H2 _ S2 (st.trans st2) ok2 (Rps.cons (rd.step st2) r2) q2⟩⟩
/-- how a call binds: n values by place, ks by name; gD puts the trees in order, gV the values -/
structure KBd (K : Kx) (fd : FuncData) (ps : List Str) (n : Nat) (ks : List Str) (gD : List D → List D → List D) : Prop where
  ex : ∃ (g : List Value → List Value → List Value) (gV : List V → List V → List V), KBn K.K fd ps n ks g gV ∧ ∀ S H ds vs es us, Rps K S H ds vs → Rps K S H es us → Rps K S H (gD ds es) (gV vs us)
theorem run_fnNX {CX : CXT} {sp : Sp} {E : L2.St → XK} {g : List Value → List Value → List Value} {gV : List V → List V → List V} {pins : List (Addr × Obj)} {σ : L2.St} {H : Hp} {s : Shared} {Q : VK} {us ws : List Value} {vs zs : List V} (F : FnOk X.prog X.w X.K X.mg X.base CX k f fd ps sp) (hr : Room k X.A) (hb : KBn X.K fd ps n ks g gV) (hx : PassesAt CX X σ (E σ))
    (I : Inv X pins σ H s) (r : Vals vs us) (rz : Vals zs ws) (l1 : vs.length = n) (l2 : zs.length = ks.length) (h : sp (gV vs zs) H Q (E σ)) : wpAny (model X.prog X.w) X.A (call (.ref f) us (ks.zip ws)) (EP X pins σ Q) X.xe s := by
  have r2 := hb.rel r rz
  refine wpAny_call (codeAny_mono (F.run X.A X.stack s H ⟨us, ks.zip ws⟩ (g us ws) (gV vs zs) Q (E σ) hr I.env0 (hb.to s us ws I.kIn (r.length.symm.trans l1) (rz.length.symm.trans l2)) r2 h) fun r s' hq => ?_)
  cases r with
  | error e => exact hx pins H s e s' I hq
  | ok fl =>
    cases fl with
    | ret u => exact I.after hq
    | next => exact False.elim hq
    | brk => exact False.elim hq
    | cont => exact False.elim hq
def wCallK (A : ASp) (n m : Nat) (gD : List D → List D → List D) (Wx : XQ) (wa wk : WA) : WE := fun ρ S Q => wa ρ S fun ds S1 => wk ρ S1 fun es S2 => ds.length = n ∧ es.length = m ∧ A (gD ds es) S2 Q fun c p S' => Wx c p ρ S'
end
end KR
set_option Elab.async false
set_option linter.all false
set_option maxRecDepth 100000
set_option maxHeartbeats 2000000
namespace KR
open PySem PySem.Spec PyProof.Rows L2
/-! ### facts by names, beyond the kit's -/
def oexB (K : PySem.W.Frag) (C : Addr) : Bool := (match K.lookup C with
  | some ⟨.type "type", _, .cls cd, sl⟩ => (match cd.mro, sl.toList with
    | .ref C' :: bm, [_, _, _, _, some (.builtin n), _] => C' == C && n == "ValueError.__new__" && !cd.hasDel && cd.hasDict && PySem.HandSPX.refsVE bm
    | _, _ => false)
  | _ => false) && (decide (PySem.W.findIn K (.ref C) "__setattr__" = some (some (.builtin "object.__setattr__"))) && (decide (PySem.W.subIn K (.ref C) (.type "BaseException") = some true) &&
    (decide (PySem.W.typeIn K (.ref C) = some (.type "type")) && PySem.W.keepIn K (.ref C))))
theorem oexB_ok {K : PySem.W.Frag} {C : Addr} (h : oexB K C = true) : OexC K C := by
  unfold oexB at h
  simp only [Bool.and_eq_true, decide_eq_true_eq] at h
  obtain ⟨q, h2, h3, h4, h5⟩ := h
  refine ⟨?_, h2, h3, h4, h5⟩
  split at q
  · rename_i dd cd sl ho
    split at q
    · rename_i C' bm k0 k1 k2 k3 n k5 hm hs
      simp only [Bool.and_eq_true, beq_iff_eq, Bool.not_eq_true'] at q
      obtain ⟨⟨⟨⟨rfl, rfl⟩, hdel⟩, hdc⟩, hve⟩ := q
      obtain ⟨nm, bs, mro, ns, qn, hd, sn, sub, ab, col, del⟩ := cd
      dsimp only at hm hdel hdc
      subst hm hdel hdc
      have hsl : sl = #[k0, k1, k2, k3, some (.builtin "ValueError.__new__"), k5] := by
        obtain ⟨l⟩ := sl
        simp only at hs
        rw [hs]
      subst hsl
      exact ⟨nm, qn, ns, bs, bm, sn, sub, ab, col, dd, k0, k1, k2, k3, k5, ho, hve⟩
    · cases q
  · cases q
inductive Fb where
  | old (f : He.Fa)
  /-- what isinstance asks of an exception's class -/
  | exc2 (x : Str)
  /-- an exception's class with an own __init__ -/
  | oex (x : Str)
  | kit (x y : Str) (b : Bool)
  | kitT (x : Str) (T : String) (b : Bool)
  | kitTT (T U : String) (b : Bool)
  | lstV (x : Str) (vs : List He.Dv)
  | tupV (x : Str) (vs : List He.Dv)
def Fb.ok (K : PySem.W.Frag) : Fb → Bool
  | .old f => f.ok K
  | .exc2 x => exC K (He.ga K x)
  | .oex x => oexB K (He.ga K x) && (decide (PySem.W.findIn K (.ref (He.ga K x)) "__init__" = some (some (.ref (He.ma K (He.ga K x) "__init__")))) && decide (PySem.W.typeIn K (.ref (He.ma K (He.ga K x) "__init__")) = some (.type "function")))
  | .kit x y b => decide (PySem.W.kitOne K (.ref (He.ga K x)) (.ref (He.ga K y)) = some b)
  | .kitT x T b => decide (PySem.W.kitOne K (.ref (He.ga K x)) (.type T) = some b)
  | .kitTT T U b => decide (PySem.W.kitOne K (.type T) (.type U) = some b)
  | .lstV x vs => He.lstB K x vs
  | .tupV x vs => He.tupB K x vs
def obsB (fa : List Fb) (fn : List He.DefD) (K : PySem.W.Frag) : He.AlD := ((fa.all fun f => f.ok K) && fn.all fun d => d.ok K, fn.map fun d => He.fnW K d.at_)
def SaysB (fa : List Fb) (fn : List He.DefD) (K : PySem.W.Frag) : Prop := obsB fa fn K = He.valD fn
def obsBG (n : Nat) (fa : List Fb) (fn : List He.DefD) (g : Addr → Option Obj) : He.AlD := obsB fa fn (He.frG g (He.asD g n))
def hookB (n : Nat) (fa : List Fb) (fn : List He.DefD) : PySem.W.Hook where
  α := He.AlD
  obs := fun s => obsBG n fa fn s.heap.get?
  val := fun _ => He.valD fn
  says := fun _ h => ∃ K : PySem.W.Frag, K.In h ∧ SaysB fa fn K
  of := fun _ _ e => ⟨_, He.frG_in, e⟩
  keeps := fun _ _ _ ⟨K, hK, c⟩ k => ⟨K, PySem.W.Frag.In.keeps hK k, c⟩
theorem obsBG_eq {n : Nat} {fa : List Fb} {fn : List He.DefD} {g : Addr → Option Obj} {s : Shared} (h : ∀ a, g a = s.heap.get? a) : obsBG n fa fn g = (hookB n fa fn).obs s := by
  have e : g = s.heap.get? := funext h
  rw [e] <;> rfl
section
variable {fa : List Fb} {fn : List He.DefD} {K : PySem.W.Frag}
theorem SaysB.fact (c : SaysB fa fn K) (i : Nat) {f : Fb} (h : fa[i]? = some f := by rfl) : f.ok K = true := by
  have c1 := (He.ba (show ((fa.all fun f => f.ok K) && fn.all fun d => d.ok K) = true from congrArg (fun z : He.AlD => z.1) c)).1
  exact List.all_eq_true.mp c1 f (List.mem_of_getElem? h)
theorem SaysB.def_ (c : SaysB fa fn K) (i : Nat) {d : He.DefD} (h : fn[i]? = some d := by rfl) : ∃ fd, FunD K d.name d.qual d.params d.body d.scope (d.dvs K) (d.kws K) (He.fAd K d.at_) fd := by
  have c2 := (He.ba (show ((fa.all fun f => f.ok K) && fn.all fun d => d.ok K) = true from congrArg (fun z : He.AlD => z.1) c)).2
  have e : fn.map (fun d => He.fnW K d.at_) = fn.map He.DefD.val := congrArg (fun z : He.AlD => z.2) c
  have e2 : (fn.map fun d => He.fnW K d.at_)[i]? = (fn.map He.DefD.val)[i]? := by rw [e]
  rw [List.getElem?_map, List.getElem?_map, h] at e2
  exact He.DefD.funD (Option.some.inj e2) (List.all_eq_true.mp c2 d (List.mem_of_getElem? h))
end
/-- what a law's defs stand on -/
structure Txt (fa : List Fb) (fn : List He.DefD) (K : Kx) (mg : Str → Option Value) (base : Heap) : Prop where
  X : K.K.In base
  G : base.Ns mainGlobals mg
  c : SaysB fa fn K.K
section
variable {fa : List Fb} {fn : List He.DefD} {K : Kx} {mg : Str → Option Value} {base : Heap}
theorem Txt.glo (T : Txt fa fn K mg base) (i : Nat) {x : Str} (h : fa[i]? = some (.old (.glo x)) := by rfl) : mg x = some (.ref (He.ga K.K x)) := He.glo_ok T.X T.G (T.c.fact i h)
theorem Txt.free (T : Txt fa fn K mg base) (i : Nat) {x : Str} (h : fa[i]? = some (.old (.free x)) := by rfl) : mg x = none := He.free_ok T.X T.G (T.c.fact i h)
theorem Txt.int (T : Txt fa fn K mg base) (i : Nat) {x : Str} {j : Int} (h : fa[i]? = some (.old (.int x j)) := by rfl) : ∃ t, mg x = some (.int j t) := He.int_ok T.X T.G (T.c.fact i h)
theorem Txt.cls (T : Txt fa fn K mg base) (i : Nat) {x : Str} (h : fa[i]? = some (.old (.cls x)) := by rfl) : Cls K.K (He.ga K.K x) := He.cls_ok (T.c.fact i h)
theorem Txt.noat (T : Txt fa fn K mg base) (i : Nat) {x f : Str} (h : fa[i]? = some (.old (.noat x f)) := by rfl) : NoAttr K.K (He.ga K.K x) f := He.noat_ok (T.c.fact i h)
theorem Txt.meth (T : Txt fa fn K mg base) (i : Nat) {x m : Str} (h : fa[i]? = some (.old (.meth x m)) := by rfl) : Meth K.K (He.ga K.K x) m (He.ma K.K (He.ga K.K x) m) := He.meth_ok (T.c.fact i h)
theorem Txt.mkr (T : Txt fa fn K mg base) (i : Nat) {x : Str} (h : fa[i]? = some (.old (.mkr x)) := by rfl) : Mk K.K (He.ga K.K x) (He.ma K.K (He.ga K.K x) "__init__") := He.mkr_ok (T.c.fact i h)
theorem Txt.exc (T : Txt fa fn K mg base) (i : Nat) {x : Str} (h : fa[i]? = some (.old (.exc x)) := by rfl) : PySem.W.excIn K.K (He.ga K.K x) He.veBase "ValueError.__new__" = true ∧ PySem.W.keepIn K.K (.ref (He.ga K.K x)) = true ∧ PySem.W.subIn K.K (.ref (He.ga K.K x)) (.type "BaseException") = some true ∧
    PySem.W.typeIn K.K (.ref (He.ga K.K x)) = some (.type "type") := He.exc_ok (T.c.fact i h)
theorem Txt.exm (T : Txt fa fn K mg base) (i : Nat) {x y : Str} {b : Bool} (h : fa[i]? = some (.old (.exm x y b)) := by rfl) : PySem.W.exmOne K.K (.ref (He.ga K.K x)) (.ref (He.ga K.K y)) = some b := He.exm_ok (T.c.fact i h)
theorem Txt.exc2 (T : Txt fa fn K mg base) (i : Nat) {x : Str} (h : fa[i]? = some (.exc2 x) := by rfl) : ExC K.K (He.ga K.K x) := exC_ok (T.c.fact i h)
theorem Txt.oex (T : Txt fa fn K mg base) (i : Nat) {x : Str} (h : fa[i]? = some (.oex x) := by rfl) : OexC K.K (He.ga K.K x) ∧ PySem.W.findIn K.K (.ref (He.ga K.K x)) "__init__" = some (some (.ref (He.ma K.K (He.ga K.K x) "__init__"))) ∧ PySem.W.typeIn K.K (.ref (He.ma K.K (He.ga K.K x) "__init__")) = some (.type "function") := by
  have z : (oexB K.K (He.ga K.K x) && (decide (PySem.W.findIn K.K (.ref (He.ga K.K x)) "__init__" = some (some (.ref (He.ma K.K (He.ga K.K x) "__init__")))) && decide (PySem.W.typeIn K.K (.ref (He.ma K.K (He.ga K.K x) "__init__")) = some (.type "function")))) = true := T.c.fact i h
  simp only [Bool.and_eq_true, decide_eq_true_eq] at z
  exact ⟨oexB_ok z.1, z.2.1, z.2.2⟩
theorem Txt.kit (T : Txt fa fn K mg base) (i : Nat) {x y : Str} {b : Bool} (h : fa[i]? = some (.kit x y b) := by rfl) : PySem.W.kitOne K.K (.ref (He.ga K.K x)) (.ref (He.ga K.K y)) = some b := of_decide_eq_true (T.c.fact i h)
theorem Txt.kitT (T : Txt fa fn K mg base) (i : Nat) {x : Str} {U : String} {b : Bool} (h : fa[i]? = some (.kitT x U b) := by rfl) : PySem.W.kitOne K.K (.ref (He.ga K.K x)) (.type U) = some b := of_decide_eq_true (T.c.fact i h)
theorem Txt.kitTT (T : Txt fa fn K mg base) (i : Nat) {U W : String} {b : Bool} (h : fa[i]? = some (.kitTT U W b) := by rfl) : PySem.W.kitOne K.K (.type U) (.type W) = some b := of_decide_eq_true (T.c.fact i h)
end
/-! ### a def that keeps its promise -/
structure OkF (K : Kx) (mg : Str → Option Value) (base : Heap) (j : Nat) (key : Str × Option Str) (ps : List Str) (dds : List D) (A : ASp) : Prop where
  ex : ∃ fd ds dvs, FnOk K.P K.w K.K mg base (L2.CX K.P K.w) j (He.fAd K.K key) fd ps (toSp K A) ∧ Binds K.K fd ps ds ∧ Vals dvs ds ∧ (∀ S H, Rps K S H dds dvs)
  kp : PySem.W.keepIn K.K (.ref (He.fAd K.K key)) = true
section
variable {B : Bs} {X : Cx} {j : Nat} {ps : List Str} {A : ASp} {x m : Str} {p pos apos : Pos} {e o : Expr} {es : List Expr} {wo : WE} {wa : WA} {Wx : XQ} {dds : List D}
theorem ae_callF (O : OkF B.K X.mg X.base j (x, none) ps dds A) (hB : B.K = ⟨X.K, X.prog, X.w⟩) (hr : Room j X.A) (hg : Gl X x) (hm : X.mg x = some (.ref (He.ga B.K.K x))) (hx : Xc B X Wx) (ha : AA B X (e :: es) wa)
    (hdb : (x == ("__debug__" : Str)) = false := by decide) (he : starEach (e :: es) X.env = (false, eval e X.env) :: starEach es X.env := by rfl) (hpl : (backTo pos (starEach es X.env)).any (·.1) = false := by rfl) :
    AE B X (.Call (.Name x p) (e :: es) [] pos) (wCall A dds Wx wa) := by
  obtain ⟨⟨fd, ds, dvs, F, b, v, d⟩, kp⟩ := O
  obtain ⟨K, S, H⟩ := B
  dsimp only at hB hm
  subst hB
  exact ae_call rfl rfl F hr hg hm kp b v d hx ha hdb he hpl
theorem ae_callF0 (O : OkF B.K X.mg X.base j (x, none) ps dds A) (hB : B.K = ⟨X.K, X.prog, X.w⟩) (hr : Room j X.A) (hg : Gl X x) (hm : X.mg x = some (.ref (He.ga B.K.K x))) (hx : Xc B X Wx)
    (hdb : (x == ("__debug__" : Str)) = false := by decide) : AE B X (.Call (.Name x p) [] [] pos) (wCall A dds Wx waNil) := by
  obtain ⟨⟨fd, ds, dvs, F, b, v, d⟩, kp⟩ := O
  obtain ⟨K, S, H⟩ := B
  dsimp only at hB hm
  subst hB
  exact ae_call0 F hr hg hm kp b v d hx hdb
theorem ae_methF {C : Str} {pl : Sem Bool} (ho : AE B X o wo) (c : Cls B.K.K (He.ga B.K.K C)) (hm : Meth B.K.K (He.ga B.K.K C) m (He.ma B.K.K (He.ga B.K.K C) m)) (O : OkF B.K X.mg X.base j (C, some m) ps dds A) (hB : B.K = ⟨X.K, X.prog, X.w⟩) (hr : Room j X.A) (hx : Xc B X Wx) (ha : AA B X (e :: es) wa)
    (hst : starEach (e :: es) X.env = (false, eval e X.env) :: starEach es X.env := by rfl) (hpl : (backTo pos (starEach es X.env)).any (·.1) = false := by rfl)
    (ht : eval (.Call (.Attribute o m apos) (e :: es) [] pos) X.env = (do
      let ov ← eval o X.env
      standAt apos.atName
      let (f, first) ← holding [ov] (getMethod ov m pl)
      callWith pos f first (backTo pos (starEach (e :: es) X.env)) (backToKw pos (keywordEach [] X.env))) := by rfl) :
    AE B X (.Call (.Attribute o m apos) (e :: es) [] pos) (wMeth (He.ga B.K.K C) m A dds Wx wo wa) := by
  obtain ⟨⟨fd, ds, dvs, F, b, v, d⟩, kp⟩ := O
  obtain ⟨K, S, H⟩ := B
  dsimp only at hB hm
  subst hB
  exact ae_meth ho c hm F hr b v d hx ha hst hpl ht
theorem ae_methF0 {C : Str} {pl : Sem Bool} (ho : AE B X o wo) (c : Cls B.K.K (He.ga B.K.K C)) (hm : Meth B.K.K (He.ga B.K.K C) m (He.ma B.K.K (He.ga B.K.K C) m)) (O : OkF B.K X.mg X.base j (C, some m) ps dds A) (hB : B.K = ⟨X.K, X.prog, X.w⟩) (hr : Room j X.A) (hx : Xc B X Wx)
    (ht : eval (.Call (.Attribute o m apos) [] [] pos) X.env = (do
      let ov ← eval o X.env
      standAt apos.atName
      let (f, first) ← holding [ov] (getMethod ov m pl)
      callWith pos f first (backTo pos (starEach [] X.env)) (backToKw pos (keywordEach [] X.env))) := by rfl) :
    AE B X (.Call (.Attribute o m apos) [] [] pos) (wMeth (He.ga B.K.K C) m A dds Wx wo waNil) := by
  obtain ⟨⟨fd, ds, dvs, F, b, v, d⟩, kp⟩ := O
  obtain ⟨K, S, H⟩ := B
  dsimp only at hB hm
  subst hB
  exact ae_meth0 ho c hm F hr b v d hx ht
theorem ae_makeF (M : Mk B.K.K (He.ga B.K.K x) (He.ma B.K.K (He.ga B.K.K x) "__init__")) (O : OkF B.K X.mg X.base j (x, some "__init__") ps dds A) (hB : B.K = ⟨X.K, X.prog, X.w⟩) (hr : Room (j + 1) X.A) (hg : Gl X x) (hm : X.mg x = some (.ref (He.ga B.K.K x)))
    (ha : AA B X (e :: es) wa) (hdb : (x == ("__debug__" : Str)) = false := by decide) (he : starEach (e :: es) X.env = (false, eval e X.env) :: starEach es X.env := by rfl) (hpl : (backTo pos (starEach es X.env)).any (·.1) = false := by rfl) :
    AE B X (.Call (.Name x p) (e :: es) [] pos) (wMake (He.ga B.K.K x) A dds wa) := by
  obtain ⟨⟨fd, ds, dvs, F, b, v, d⟩, kp⟩ := O
  obtain ⟨K, S, H⟩ := B
  dsimp only at hB hm
  subst hB
  exact ae_make M F hr hg hm b v d ha hdb he hpl
theorem ae_makeF0 (M : Mk B.K.K (He.ga B.K.K x) (He.ma B.K.K (He.ga B.K.K x) "__init__")) (O : OkF B.K X.mg X.base j (x, some "__init__") ps dds A) (hB : B.K = ⟨X.K, X.prog, X.w⟩) (hr : Room (j + 1) X.A) (hg : Gl X x) (hm : X.mg x = some (.ref (He.ga B.K.K x)))
    (hdb : (x == ("__debug__" : Str)) = false := by decide) : AE B X (.Call (.Name x p) [] [] pos) (wMake (He.ga B.K.K x) A dds waNil) := by
  obtain ⟨⟨fd, ds, dvs, F, b, v, d⟩, kp⟩ := O
  obtain ⟨K, S, H⟩ := B
  dsimp only at hB hm
  subst hB
  exact ae_make0 M F hr hg hm b v d hdb
end
/-! ### the law's def -/
theorem PSs.weakI {X : Cx} {st : List Stmt} {t t' : TS} (h : PSs X st t) (i : ∀ pins s D σ H, Inv X pins σ H s → t' D σ H → t D σ H) : PSs X st t' := ⟨fun pins s σ H D I q => h.run pins s σ H D I (i _ _ _ _ _ I q)⟩
theorem ok_only {K : Kx} {H : Hp} {h : Heap} (o : Only H) (ok : HOk K.P K.w H h) : Ok K (fun _ => none) H := by
  refine ⟨fun a c e => (nomatch e), fun a xs q => ?_⟩
  have z := o a
  rcases q with (q | ⟨u, q⟩) | (q | ⟨u, q⟩)
  · rcases z with e | ⟨_, _, e⟩ <;> (rw [q] at e; cases e)
  · exact (show ObjOk K.P K.w H h a (.frz u (.lst xs)) from ok a _ q).2.1
  · rcases z with e | ⟨_, _, e⟩ <;> (rw [q] at e; cases e)
  · rcases z with e | ⟨_, _, e⟩ <;> (rw [q] at e; cases e)
/-- the law: told true of each script of at most n numbers -/
def spL (K : Kx) (n : Nat) : Sp := fun vs H Q _ => ∃ (a : Addr) (ns : List Int), vs = [.ref a] ∧ SqL K.K H a (ns.map V.int) ∧ ns.length ≤ n ∧ Only H ∧ ∀ H', Q (.bl true) H'
theorem scr_rp {K : Kx} {H : Hp} {a : Addr} {ns : List Int} (h : SqL K.K H a (ns.map V.int)) : Rp K (fun _ => none) H (.scr ns) (.ref a) := by
  unfold Rp
  refine ⟨a, rfl, ?_⟩
  rcases h with h | h
  · exact .inl ⟨rfl, h⟩
  · exact .inr h
theorem fn_law {K : Kx} {mg : Str → Option Value} {base : Heap} {x qual : Str} {params : Arguments} {body : List Stmt} {scope : Scope} {dvs : List V} {kws : List (Str × V)} {f : Addr} {fd : FuncData} {N : List Str} {p : Str} {k n : Nat} {w : WS}
    (F : FunD K.K x qual params body scope dvs kws f fd) (Sc : FnScope N [p] scope)
    (hb : ∀ (cdv : Value) (A0 : Around) (outer : List Env) (s : Shared) (H : Hp) (E : XK), Room k (A0.deeper (envOfC qual scope s.heap.objs.size f cdv)) → ∀ S0 H0, Xc ⟨K, S0, H0⟩ (cxD K mg base N qual scope f cdv A0 outer s H E) X0 → ASs ⟨K, S0, H0⟩ (cxD K mg base N qual scope f cdv A0 outer s H E) body w)
    (hw : ∀ ns : List Int, ns.length ≤ n → w { nx := fun _ _ => False, rt := fun d _ => d = .bl true } (startD N [.scr ns]) fun _ => none) : FnOk K.P K.w K.K mg base (L2.CX K.P K.w) (k + 1) f fd [p] (spL K n) := by
  refine F.ok Sc (fun vs H Q E ⟨a, ns, e, _⟩ => by rw [e]; rfl) fun cdv A0 outer s H vs Q E hr ⟨a, ns, e, hS, hn, ho, hQ⟩ => ?_
  refine ⟨fun D σ H' => Only H' ∧ (Ok K (fun _ => none) H' → tws ⟨K, fun _ => none, H'⟩ w D σ H'), ⟨fun pins s' σ H' D I q => ?_⟩, ho, fun ok => ?_⟩
  · exact (hb cdv A0 outer s H E hr _ _ xc0).run pins s' σ H' D I (q.2 (ok_only q.1 I.hok))
  · subst e
    have rr : Rps K (fun _ => none) H [D.scr ns] [V.ref a] := Rps.cons (scr_rp hS) Rps.nil
    refine ⟨startD N [.scr ns], fun _ => none, _, rel_start ok rr, hw ns hn, ⟨fun _ _ _ _ _ _ z => z.elim, fun d S' v H' st ok' rd e => ?_, fun _ _ _ _ _ _ z => z, fun _ _ _ _ _ _ z => z⟩⟩
    subst e
    rw [of_bl rd]
    exact hQ H'
theorem cx_false {P : Program} {w : World} (H : Hp) (s : Shared) (e : Value) (s' : Shared) (h : L2.CX P w [] H s (fun _ _ _ => False) e s') : False := by
  obtain ⟨_, _, _, _, _, _, _, _, _, _, _, _, z⟩ := h
  exact z
end KR
set_option Elab.async false
set_option linter.all false
set_option maxRecDepth 100000
set_option maxHeartbeats 2000000
namespace KR
open PySem PySem.Spec PyProof.Rows L2
theorem _root_.L2.Room.u1 {k : Nat} {A : Around} (r : Room k A) : A.units + 1 < cLine := by have := r.units; omega
theorem _root_.L2.Room.u65 {k : Nat} {A : Around} (r : Room k A) : A.units + 65 < cLine := by have := r.un; omega
/-! ### the scope of a comprehension, by computing -/
def blkB (N : List Str) (sc scope : Scope) (own : List (Str × Nat)) : Bool := decide (scope.kind = .function) && (decide (∀ y ∈ scope.names, scope.names.lookup y.1 = some y.2) && (decide (∀ p ∈ own, N[p.2]? = some p.1) &&
  (decide (∀ y ∈ scope.names, y.2 = .free → sc.names.lookup y.1 = some .cell ∨ sc.names.lookup y.1 = some .free) && decide (∀ y ∈ scope.names, y.2 = .local ∨ y.2 = .cell → y.1 ∈ own.map (·.1) ∨ y.1 ∉ N))))
theorem blk_of {N : List Str} {sc scope : Scope} {own : List (Str × Nat)} (h : blkB N sc scope own = true) : BlkOk N sc scope own := by
  unfold blkB at h
  simp only [Bool.and_eq_true, decide_eq_true_eq] at h
  exact ⟨h.1, h.2.1, h.2.2.1, h.2.2.2.1, h.2.2.2.2⟩
section
variable {B : Bs} {X : Cx} {tg e : Expr} {es : List Expr} {we : WE} {wa : WA} {pos p pos2 : Pos}
/-! ### patterns -/
theorem pgp_name {i : Nat} {x : Str} (hN : X.N.Nodup) (hi : X.N[i]? = some x) (hx : Loc X.env.scope x) (hf : X.fn x = true ∨ X.env.scope.names.lookup x = some .local := by first | exact .inl rfl | exact .inr rfl | assumption) : PG X (.Name x pos) (patG X.K (.name i)) := by
  unfold patG
  exact pg_name hN hi hx hf
theorem pgs_nil_ : PGs X [] (patGs X.K []) := by
  unfold patGs
  exact pgs_nil
theorem pgs_cons_ {q : Pat} {qs : List Pat} (h1 : PG X e (patG X.K q)) (h2 : PGs X es (patGs X.K qs)) (hs : (assignEach (e :: es) X.env).map (·.2) = assign e X.env :: (assignEach es X.env).map (·.2) := by rfl) : PGs X (e :: es) (patGs X.K (q :: qs)) := by
  rw [patGs]
  exact pgs_cons h1 h2 hs
theorem pgp_tup {qs : List Pat} {k : Nat} (hc : X.calm = true) (h : PGs X es (patGs X.K qs)) (hn : (assignEach es X.env).length = qs.length := by rfl) (hst : (assignEach es X.env).findIdx? (·.1) = none := by rfl) : PG X (.Tuple es k pos) (patG X.K (.tup qs)) := by
  unfold patG
  exact pg_tup hc h hn hst
/-! ### what is walked: of any sort -/
def wiAny (we : WE) : WI := fun ρ S Q => wiL we ρ S Q ∨ wiT we ρ S Q ∨ wiKK we ρ S Q ∨ wiS we ρ S Q
theorem ai_any (hk : X.K = B.K.K) (he : AE B X e we) : AI B X tg e (wiAny we) := ⟨fun pins s σ H R I ⟨ρ, S, QQ, RR, q, k⟩ => by
  rcases q with q | q | q | q
  · exact (ai_list hk he).run pins s σ H R I ⟨ρ, S, QQ, RR, q, k⟩
  · exact (ai_tup hk he).run pins s σ H R I ⟨ρ, S, QQ, RR, q, k⟩
  · exact (ai_keysK he).run pins s σ H R I ⟨ρ, S, QQ, RR, q, k⟩
  · exact (ai_str he).run pins s σ H R I ⟨ρ, S, QQ, RR, q, k⟩⟩
/-! ### the module's numbers, tuples of texts -/
theorem ae_cls {x : Str} {a : Addr} (h : X.mg x = some (.ref a)) (hg : Gl X x := by rfl) (hdb : (x == ("__debug__" : Str)) = false := by decide) : AE B X (.Name x pos) (wC (.ref a)) := ae_glob (v := .ref a) hg h rfl (fun _ _ => rp_ref) hdb
theorem ae_bty {x : Str} {T : String} (hm : X.mg x = none) (hv : bootBuiltins x = some (.type T)) (hg : Gl X x := by rfl) (hn : x ≠ "__name__" := by decide) (hdb : (x == ("__debug__" : Str)) = false := by decide) : AE B X (.Name x pos) (wC (.raw (.ty T))) := ae_bltn (v := .ty T) hg hm hv rfl hn hdb
theorem ae_gint {x : Str} {i : Int} (h : ∃ t, X.mg x = some (.int i t)) (hg : Gl X x := by rfl) (hdb : (x == ("__debug__" : Str)) = false := by decide) : AE B X (.Name x pos) (wC (.int i)) := by
  obtain ⟨t, h⟩ := h
  exact ae_glob (v := .int i) hg h ⟨t, rfl⟩ (fun _ _ => rp_int) hdb
/-! ### calls with keywords alone -/
/-- such a call of a def without defaults, the keywords in the parameters' order -/
theorem kb_all {K : Kx} {x qual : Str} {params : Arguments} {body : List Stmt} {scope : Scope} {kws : List (Str × V)} {f : Addr} {fd : FuncData} {ps : List Str} (F : FunD K.K x qual params body scope [] kws f fd)
    (h : ∀ (kV doc pm : Value) (an : Option Addr) (cdv ct : Value) (ws : List Value), ws.length = ps.length → bindArgs (PySem.W.fnOf x qual params body scope .none kV doc pm an cdv ct) ⟨[], ps.zip ws⟩ = pure (ps.zip ws)) : KBn K.K fd ps 0 ps (fun _ ws => ws) (fun _ zs => zs) := by
  obtain ⟨oc, od, dV, kV, doc, pm, an, cdv, ct, osl, rfl, lk, hcd, hD, hK⟩ := F.ex
  rcases hD with ⟨_, rfl⟩ | ⟨e, _⟩
  · refine ⟨fun s us ws _ l1 l2 => ?_, fun _ r => r⟩
    have : us = [] := List.length_eq_zero_iff.mp l1
    subst this
    exact .of_eq (h kV doc pm an cdv ct ws l2)
  · exact absurd rfl e
structure OkK (K : Kx) (mg : Str → Option Value) (base : Heap) (j : Nat) (key : Str × Option Str) (ps : List Str) (A : ASp) : Prop where
  ex : ∃ fd, FnOk K.P K.w K.K mg base (L2.CX K.P K.w) j (He.fAd K.K key) fd ps (toSp K A) ∧ KBn K.K fd ps 0 ps (fun _ ws => ws) (fun _ zs => zs)
  kp : PySem.W.keepIn K.K (.ref (He.fAd K.K key)) = true
variable {j : Nat} {ps ks : List Str} {A : ASp} {x : Str} {kws : List Keyword} {Wx : XQ}
theorem ae_callKF (O : OkK B.K X.mg X.base j (x, none) ps A) (hB : B.K = ⟨X.K, X.prog, X.w⟩) (hr : Room j X.A) (hg : Gl X x) (hm : X.mg x = some (.ref (He.ga B.K.K x))) (hx : Xc B X Wx) (hkw : AK B X kws wa)
    (hl : ∀ ds S Q E, A ds S Q E → ds.length = ps.length)
    (hall : (backToKw pos (keywordEach kws X.env)).all (·.1.isSome) = true := by rfl) (hks : (backToKw pos (keywordEach kws X.env)).filterMap (·.1) = ps := by rfl)
    (hdb : (x == ("__debug__" : Str)) = false := by decide) (hpl : ((backTo pos (starEach [] X.env)).any (·.1) || (backToKw pos (keywordEach kws X.env)).any (·.1.isNone)) = false := by rfl) :
    AE B X (.Call (.Name x p) [] kws pos) (wCall A [] Wx wa) := by
  obtain ⟨⟨fd, F, b⟩, kp⟩ := O
  obtain ⟨K, S0, H0⟩ := B
  dsimp only at hB hm
  subst hB
  obtain ⟨W, tk, hW⟩ := hx
  refine ⟨fun pins s σ H QQ I ⟨ρ, S, Q, R, q, kk⟩ => ?_⟩
  refine wpAny_Call_Name_kw (ld_glob I hg hm ?_ hdb)
  refine PySem.W.callWith_KW0 (h₀ := X.base) I.ok.mod.kin kp hall (thn (hkw.run pos pins s σ H (fun vs H1 => ∃ ds S1, Step S H S1 H1 ∧ Ok _ S1 H1 ∧ Rps _ S1 H1 ds vs ∧ _) I ⟨ρ, S, _, R, q, fun vs H1 ds S1 st ok rd q1 => ⟨ds, S1, st, ok, rd, q1⟩⟩) fun ws s2 ⟨zs, H2, I2, rz, ds, S1, st, ok, rd, q1⟩ => ⟨I2.kIn, ?_⟩) hpl
  rw [hks]
  rw [List.append_nil] at q1
  have l2 : zs.length = ps.length := by rw [← rd.length]; exact hl _ _ _ _ q1
  exact run_fnNX (CX := L2.CX X.prog X.w) (us := []) (vs := []) (E := fun σ cls dx H => W cls dx σ H) F hr b (passAt tk σ) I2 .nil rz rfl l2 ⟨ds, S1, Q, _, ok, rd, q1, kk.back st, fun cls pl dx S' H' st' ok' hp hE => hW cls pl dx ρ S' σ H' ((R.step st ok).step st' ok') hp hE⟩
/-! ### an own exception class with one field -/
structure OkI (K : Kx) (mg : Str → Option Value) (base : Heap) (j : Nat) (key : Str × Option Str) (f : Str) : Prop where
  ex : ∃ fd ps, FnOk K.P K.w K.K mg base (L2.CX K.P K.w) j (He.fAd K.K key) fd ps (spI K.K f) ∧ Binds K.K fd ps []
theorem as_raiseF {f : Str} (hc : X.calm = true) (T : OexC B.K.K (He.ga B.K.K x) ∧ PySem.W.findIn B.K.K (.ref (He.ga B.K.K x)) "__init__" = some (some (.ref (He.ma B.K.K (He.ga B.K.K x) "__init__"))) ∧ PySem.W.typeIn B.K.K (.ref (He.ma B.K.K (He.ga B.K.K x) "__init__")) = some (.type "function"))
    (hno : NoAttr B.K.K (He.ga B.K.K x) f) (O : OkI B.K X.mg X.base j (x, some "__init__") f) (hB : B.K = ⟨X.K, X.prog, X.w⟩) (hr : Room (j + 1) X.A) (hg : Gl X x) (hm : X.mg x = some (.ref (He.ga B.K.K x))) (ha : AA B X [e] wa) (hx : Xc B X Wx)
    (hdb : (x == ("__debug__" : Str)) = false := by decide) (he : starEach [e] X.env = (false, eval e X.env) :: starEach [] X.env := by rfl) (hpl : (backTo pos2 (starEach [] X.env)).any (·.1) = false := by rfl) :
    AS B X (.Raise (some (.Call (.Name x p) [e] [] pos2)) none pos) (wRaiseI (He.ga B.K.K x) f wa Wx) := by
  obtain ⟨⟨fd, ps, F, b⟩⟩ := O
  obtain ⟨K, S0, H0⟩ := B
  dsimp only at hB hm
  subst hB
  exact as_raiseI hc T.1 T.2.1 T.2.2 hno F hr b hg hm ha hx hdb he hpl
end
section
variable {K : Kx} {mg : Str → Option Value} {base : Heap} {x qual : Str} {params : Arguments} {body : List Stmt} {scope : Scope} {dvs : List V} {kws : List (Str × V)} {f : Addr} {fd : FuncData}
/-- def __init__(self, v): self.f = v -/
theorem fn_init {N ps : List Str} {k : Nat} {fl : Str} (F : FunD K.K x qual params body scope dvs kws f fd) (Sc : FnScope N ps scope) (h2 : ps.length = 2)
    (hb : ∀ (cdv : Value) (A0 : Around) (outer : List Env) (s : Shared) (H : Hp) (E : XK), PSs (cxD K mg base N qual scope f cdv A0 outer s H E) body (tOst K.K fl (tVar 0) (tVar 1))) :
    FnOk K.P K.w K.K mg base (L2.CX K.P K.w) (k + 1) f fd ps (spI K.K fl) := by
  refine F.ok Sc (fun vs H Q E ⟨a, C, y, e, _⟩ => by rw [e, h2]; rfl) fun cdv A0 outer s H vs Q E hr ⟨a, C, y, e, T, hno, ha, q⟩ => ⟨_, hb cdv A0 outer s H E, ?_⟩
  subst e
  refine ⟨y, by first | rfl | simp [L2.start], .ref a, by first | rfl | simp [L2.start], a, C, rfl, T, hno, .inl ⟨ha, fun dx hd ne => q dx hd ne⟩⟩
end
end KR
set_option Elab.async false
set_option linter.all false
set_option maxRecDepth 100000
set_option maxHeartbeats 2000000
namespace KR
open PySem PySem.Spec PyProof.Rows L2
/-! ### for the plain part: what a meaning asks, step by step -/
section
variable {ρ : AR} {S : Store} {Q : VQ} {E : AEnds} {wa wb wc we wo wi wv : WE} {w1 w2 : WS} {t ta tb : WT} {i j : Nat} {d x y : D} {ar : WA}
theorem s_seq : wSeq w1 w2 E ρ S ↔ w1 { E with nx := fun ρ' S' => w2 E ρ' S' } ρ S := Iff.rfl
theorem s_set : wSet j we E ρ S ↔ we ρ S fun d S1 => E.nx (ρ.set j (some d)) S1 := Iff.rfl
theorem s_next : wNext E ρ S ↔ E.nx ρ S := Iff.rfl
theorem s_cont : wCont E ρ S ↔ E.ct ρ S := Iff.rfl
theorem s_break : wBreak E ρ S ↔ E.bk ρ S := Iff.rfl
theorem s_expr : wExpr we E ρ S ↔ we ρ S fun _ S1 => E.nx ρ S1 := Iff.rfl
theorem s_retN : wRetN E ρ S ↔ E.rt .non S := Iff.rfl
theorem s_var : wVar i ρ S Q ↔ ∃ d, ρ[i]? = some (some d) ∧ Q d S := Iff.rfl
theorem s_c : wC d ρ S Q ↔ Q d S := Iff.rfl
theorem s_op {o : W2} : wOp o wa wb ρ S Q ↔ wa ρ S fun x S1 => wb ρ S1 fun y S2 => o x y S2 Q := Iff.rfl
theorem s_nil {Q : List D → Store → Prop} : waNil ρ S Q ↔ Q [] S := Iff.rfl
theorem s_cons {Q : List D → Store → Prop} : waCons we ar ρ S Q ↔ we ρ S fun d S1 => ar ρ S1 fun ds S2 => Q (d :: ds) S2 := Iff.rfl
theorem s_cb {o : WC} : wCB o ar ρ S Q ↔ ar ρ S fun ds S1 => o ds S1 Q := Iff.rfl
theorem s_call {A : ASp} {dds : List D} {Wx : XQ} : wCall A dds Wx ar ρ S Q ↔ ar ρ S fun ds S1 => A (ds ++ dds) S1 Q fun c p S' => Wx c p ρ S' := Iff.rfl
theorem s_tup : wTup ar ρ S Q ↔ ar ρ S fun ds S1 => ds.length ≤ sizeLine ∧ Q (.tup ds) S1 := Iff.rfl
theorem s_lst : wLstB ar ρ S Q ↔ ar ρ S fun ds S1 => ds.length ≤ sizeLine ∧ newLL ds S1 Q := Iff.rfl
theorem s_sub : wSub wo wi wv E ρ S ↔ wv ρ S fun v S1 => wo ρ S1 fun x S2 => wi ρ S2 fun y S3 => oSet x y v S3 fun S4 => E.nx ρ S4 := Iff.rfl
theorem s_bm {T : String} {o : WM} : wBM T o wo ar ρ S Q ↔ wo ρ S fun x S1 => rcv T x S1 ∧ ar ρ S1 fun ds S2 => o x ds S2 Q := Iff.rfl
theorem s_aug {o : W2} : wAug j o we E ρ S ↔ ∃ x, ρ[j]? = some (some x) ∧ we ρ S fun y S1 => o x y S1 fun z S2 => E.nx (ρ.set j (some z)) S2 := Iff.rfl
theorem s_asg {p : Pat} : wAsg p we E ρ S ↔ we ρ S fun d S1 => ∃ ρ', patW p d ρ = some ρ' ∧ E.nx ρ' S1 := Iff.rfl
theorem s_sl {wl wh : WO} : wSlB we wl wh ρ S Q ↔ we ρ S fun x S1 => wl ρ S1 fun lo S2 => wh ρ S2 fun hi S3 => oSlB x lo hi S3 Q := Iff.rfl
theorem s_nopart {Q : Option Int → Store → Prop} : wNoPart ρ S Q ↔ Q none S := Iff.rfl
theorem s_part {Q : Option Int → Store → Prop} : wPart we ρ S Q ↔ we ρ S fun d S1 => match d with | .int i => Q (some i) S1 | _ => False := Iff.rfl
theorem s_ret : wRetF we E ρ S ↔ we ρ S fun d S1 => ∃ S2, Sub S2 S1 ∧ (E.rt d S2 ∨ frz1 d S2 E.rt ∨ frzD d S2 E.rt) := Iff.rfl
theorem ret_ {d : D} {S : Store} {Q : VQ} (q : Q d S) : ∃ S2, Sub S2 S ∧ (Q d S2 ∨ frz1 d S2 Q ∨ frzD d S2 Q) := ⟨S, Sub.refl, .inl q⟩
theorem s_ifs : wIfS t w1 w2 E ρ S ↔ t ρ S fun b S1 => (b = true → w1 E ρ S1) ∧ (b = false → w2 E ρ S1) := by
  unfold wIfS
  have e : (fun (b : Bool) (S1 : Store) => match b with | true => w1 E ρ S1 | false => w2 E ρ S1) = fun b S1 => (b = true → w1 E ρ S1) ∧ (b = false → w2 E ρ S1) := by
    funext b S1
    cases b <;> simp
  exact iff_of_eq (congrArg (t ρ S) e)
theorem s_if : wIf t wa wb ρ S Q ↔ t ρ S fun b S1 => (b = true → wa ρ S1 Q) ∧ (b = false → wb ρ S1 Q) := by
  unfold wIf
  have e : (fun (b : Bool) (S1 : Store) => match b with | true => wa ρ S1 Q | false => wb ρ S1 Q) = fun b S1 => (b = true → wa ρ S1 Q) ∧ (b = false → wb ρ S1 Q) := by
    funext b S1
    cases b <;> simp
  exact iff_of_eq (congrArg (t ρ S) e)
variable {T : Bool → Store → Prop}
theorem s_test : wTest we ρ S T ↔ we ρ S fun d S1 => ∃ b, d = .bl b ∧ T b S1 := by
  unfold wTest
  have e : (fun (d : D) (S1 : Store) => match d with | .bl b => T b S1 | _ => False) = fun d S1 => ∃ b, d = .bl b ∧ T b S1 := by
    funext d S1
    cases d <;> simp
  exact iff_of_eq (congrArg (we ρ S) e)
theorem s_not : wtNot t ρ S T ↔ t ρ S fun b S1 => T (!b) S1 := Iff.rfl
theorem s_and : wtAnd ta tb ρ S T ↔ ta ρ S fun b S1 => (b = true → tb ρ S1 T) ∧ (b = false → T false S1) := by
  unfold wtAnd
  have e : (fun (b : Bool) (S1 : Store) => match b with | true => tb ρ S1 T | false => T false S1) = fun b S1 => (b = true → tb ρ S1 T) ∧ (b = false → T false S1) := by
    funext b S1
    cases b <;> simp
  exact iff_of_eq (congrArg (ta ρ S) e)
theorem s_or : wtOr ta tb ρ S T ↔ ta ρ S fun b S1 => (b = true → T true S1) ∧ (b = false → tb ρ S1 T) := by
  unfold wtOr
  have e : (fun (b : Bool) (S1 : Store) => match b with | true => T true S1 | false => tb ρ S1 T) = fun b S1 => (b = true → T true S1) ∧ (b = false → tb ρ S1 T) := by
    funext b S1
    cases b <;> simp
  exact iff_of_eq (congrArg (ta ρ S) e)
theorem s_andV : wAndV wa wb ρ S Q ↔ wa ρ S fun d S1 => ∃ b, d = .bl b ∧ (b = true → wb ρ S1 Q) ∧ (b = false → Q (.bl false) S1) := by
  unfold wAndV
  have e : (fun (d : D) (S1 : Store) => match d with | .bl true => wb ρ S1 Q | .bl false => Q (.bl false) S1 | _ => False) = fun d S1 => ∃ b, d = .bl b ∧ (b = true → wb ρ S1 Q) ∧ (b = false → Q (.bl false) S1) := by
    funext d S1
    cases d with
    | bl b => cases b <;> simp
    | _ => simp
  exact iff_of_eq (congrArg (wa ρ S) e)
theorem s_orV : wOrV wa wb ρ S Q ↔ wa ρ S fun d S1 => ∃ b, d = .bl b ∧ (b = true → Q (.bl true) S1) ∧ (b = false → wb ρ S1 Q) := by
  unfold wOrV
  have e : (fun (d : D) (S1 : Store) => match d with | .bl true => Q (.bl true) S1 | .bl false => wb ρ S1 Q | _ => False) = fun d S1 => ∃ b, d = .bl b ∧ (b = true → Q (.bl true) S1) ∧ (b = false → wb ρ S1 Q) := by
    funext d S1
    cases d with
    | bl b => cases b <;> simp
    | _ => simp
  exact iff_of_eq (congrArg (wa ρ S) e)
theorem s_notV : wNotV wa ρ S Q ↔ wa ρ S fun d S1 => ∃ b, d = .bl b ∧ Q (.bl (!b)) S1 := by
  unfold wNotV
  have e : (fun (d : D) (S1 : Store) => match d with | .bl b => Q (.bl (!b)) S1 | _ => False) = fun d S1 => ∃ b, d = .bl b ∧ Q (.bl (!b)) S1 := by
    funext d S1
    cases d <;> simp
  exact iff_of_eq (congrArg (wa ρ S) e)
/-! operators at known values -/
theorem s_oI {C : Int → Int → Prop} {g : Int → Int → D} {a b : Int} : oI C g (.int a) (.int b) S Q ↔ C a b ∧ Q (g a b) S := Iff.rfl
theorem s_add {a b : Int} : oAddB (.int a) (.int b) S Q ↔ Q (.int (a + b)) S := Iff.rfl
theorem s_adds {a b : Str} : oAddB (.str a) (.str b) S Q ↔ a.length + b.length ≤ sizeLine ∧ Q (.str (a ++ b)) S := Iff.rfl
theorem s_addt {a b : List D} : oAddB (.tup a) (.tup b) S Q ↔ a.length + b.length ≤ sizeLine ∧ Q (.tup (a ++ b)) S := Iff.rfl
theorem add_l {xs ys : List D} (h1 : asX S x = some xs) (h2 : asX S y = some ys) (hz : xs.length + ys.length ≤ sizeLine) (q : newLL (xs ++ ys) S Q) : oAddB x y S Q := by
  unfold oAddB
  split
  · cases h1
  · cases h1
  · cases h1
  · rw [h1, h2]
    exact ⟨hz, q⟩
theorem s_mul {a b : Int} : oMulB (.int a) (.int b) S Q ↔ CMul a b ∧ Q (.int (a * b)) S := Iff.rfl
theorem s_cmp {p : Int → Int → Bool} {ps : Str → Str → Bool} {a b : Int} : oCmp p ps (.int a) (.int b) S Q ↔ Q (.bl (p a b)) S := Iff.rfl
theorem s_cmps {p : Int → Int → Bool} {ps : Str → Str → Bool} {a b : Str} : oCmp p ps (.str a) (.str b) S Q ↔ Q (.bl (ps a b)) S := Iff.rfl
theorem s_eq {neg : Bool} {a b : Int} : oEq neg (.int a) (.int b) S Q ↔ Q (.bl (decide (a = b) != neg)) S := Iff.rfl
theorem s_eqs {neg : Bool} {a b : Str} : oEq neg (.str a) (.str b) S Q ↔ Q (.bl (decide (a = b) != neg)) S := Iff.rfl
theorem s_eqb {neg : Bool} {a b : Bool} : oEq neg (.bl a) (.bl b) S Q ↔ Q (.bl (decide (a = b) != neg)) S := Iff.rfl
theorem eq_p {neg : Bool} {p q : PyData} (hf : flatE x y = none) (h1 : Pv S x p) (h2 : Pv S y q) (h3 : SeqAt.shaped p = true) (h4 : SeqAt.shaped q = true) (h : Q (.bl (PyData.eqv p q != neg)) S) : oEq neg x y S Q := by
  unfold oEq
  rw [hf]
  exact ⟨p, q, h1, h2, h3, h4, h⟩
end
theorem atI_in {α : Type} {xs : List α} {i : Int} (h0 : 0 ≤ i) (h : i.toNat < xs.length) : atI xs i = some xs[i.toNat] := by
  obtain ⟨n, rfl⟩ := Int.eq_ofNat_of_zero_le h0
  exact atI_nat (by simp)
/-! ### stores -/
theorem sup_comm {S : Store} {a b : Addr} {c d : Cell} (h : a ≠ b) : sup (sup S a c) b d = sup (sup S b d) a c := by
  funext x
  unfold sup
  by_cases e : x = b
  · subst e
    simp [Ne.symm h]
  · simp [e]
theorem asL_sup {S : Store} {a : Addr} {c : Cell} {x : D} {xs : List D} (h : asL S x = some xs) (ha : x ≠ .ref a) : asL (sup S a c) x = some xs := by
  cases x with
  | ref b =>
    have e : b ≠ a := fun e => ha (by rw [e])
    have q : sup S a c b = S b := sup_ne e
    simp only [asL, q] at h ⊢
    exact h
  | lst ys => exact h
  | scr ns => exact h
  | _ => cases h
theorem asL_new {S : Store} {a : Addr} {c : Cell} {x : D} {xs : List D} (h : asL S x = some xs) (ha : S a = none) : asL (sup S a c) x = some xs := by
  refine asL_sup h fun e => ?_
  subst e
  unfold asL at h
  simp [ha] at h
/-! ### comprehensions -/
/-- what a comprehension asks, the iterable known -/
def Lc (m : Bool) (ds : List D) (kp : Store → Prop) (p : Pat) (wt : WT) (we : WE) (vs : List Nat) (ρ : AR) (S : Store) (Q : VQ) : Prop :=
  ∃ Iv : Nat → List D → Store → Prop, Iv 0 [] S ∧ (∀ i acc S a us, i ≤ ds.length → S a = none → Iv i acc S → kp (hd S a us)) ∧
    (∀ i d acc S a us, ds[i]? = some d → S a = none → Iv i acc S → ∃ ρ', patW p d (wipeD ρ vs) = some ρ' ∧ wt ρ' (hd S a us) fun b S2 => match b with
      | true => we ρ' S2 fun y S3 => ∃ S4, S3 = hd S4 a us ∧ S4 a = none ∧ Iv (i + 1) (acc ++ [y]) S4
      | false => ∃ S4, S2 = hd S4 a us ∧ S4 a = none ∧ Iv (i + 1) acc S4) ∧ ds.length ≤ sizeLine ∧ ∀ acc S, Iv ds.length acc S → newL m acc S Q
theorem s_lc {m : Bool} {wi : WI} {p : Pat} {wt : WT} {we : WE} {vs : List Nat} {ρ : AR} {S : Store} {Q : VQ} : wLc m wi p wt we vs ρ S Q ↔ wi ρ S fun ds kp S1 => Lc m ds kp p wt we vs ρ S1 Q := Iff.rfl
/-- an element that changes nothing: a map -/
theorem lc_map {p : Pat} {we : WE} {vs : List Nat} {ρ : AR} {S : Store} {Q : VQ} {m : Bool} {ds : List D} {kp : Store → Prop} (g : D → D) (hkp : ∀ a us, S a = none → kp (hd S a us))
    (h : ∀ d ∈ ds, ∀ a us, S a = none → ∃ ρ', patW p d (wipeD ρ vs) = some ρ' ∧ ∀ Q' : VQ, Q' (g d) (hd S a us) → we ρ' (hd S a us) Q') (hz : ds.length ≤ sizeLine) (q : newL m (ds.map g) S Q) : Lc m ds kp p wtYes we vs ρ S Q := by
  refine ⟨fun i acc S' => S' = S ∧ acc = (ds.take i).map g, ⟨rfl, by simp⟩, fun i acc S' a us _ ha ⟨e, _⟩ => ?_, fun i d acc S' a us hi ha ⟨e, ea⟩ => ?_, hz, fun acc S' ⟨e, ea⟩ => ?_⟩
  · subst e; exact hkp a us ha
  · subst e
    obtain ⟨ρ', h1, h2⟩ := h d (List.mem_of_getElem? hi) a us ha
    refine ⟨ρ', h1, h2 _ ⟨S', rfl, ha, rfl, ?_⟩⟩
    rw [ea, List.take_add_one, hi]
    simp
  · subst e
    rw [ea, List.take_of_length_le (Nat.le_refl _)]
    exact q
/-- .. with a test that changes nothing -/
theorem lc_filter {p : Pat} {wt : WT} {we : WE} {vs : List Nat} {ρ : AR} {S : Store} {Q : VQ} {m : Bool} {ds : List D} {kp : Store → Prop} (b : D → Bool) (g : D → D) (hkp : ∀ a us, S a = none → kp (hd S a us))
    (h : ∀ d ∈ ds, ∀ a us, S a = none → ∃ ρ', patW p d (wipeD ρ vs) = some ρ' ∧ (∀ T : Bool → Store → Prop, T (b d) (hd S a us) → wt ρ' (hd S a us) T) ∧ (b d = true → ∀ Q' : VQ, Q' (g d) (hd S a us) → we ρ' (hd S a us) Q')) (hz : ds.length ≤ sizeLine) (q : newL m ((ds.filter b).map g) S Q) : Lc m ds kp p wt we vs ρ S Q := by
  refine ⟨fun i acc S' => S' = S ∧ acc = ((ds.take i).filter b).map g, ⟨rfl, by simp⟩, fun i acc S' a us _ ha ⟨e, _⟩ => ?_, fun i d acc S' a us hi ha ⟨e, ea⟩ => ?_, hz, fun acc S' ⟨e, ea⟩ => ?_⟩
  · subst e; exact hkp a us ha
  · subst e
    obtain ⟨ρ', h1, h2, h3⟩ := h d (List.mem_of_getElem? hi) a us ha
    refine ⟨ρ', h1, h2 _ ?_⟩
    cases hb : b d with
    | true =>
      refine h3 hb _ ⟨S', rfl, ha, rfl, ?_⟩
      rw [ea, List.take_add_one, hi]
      simp [hb]
    | false =>
      refine ⟨S', rfl, ha, rfl, ?_⟩
      rw [ea, List.take_add_one, hi]
      simp [hb]
  · subst e
    rw [ea, List.take_of_length_le (Nat.le_refl _)]
    exact q
/-- what a for asks, the iterable known -/
def Fo (ds : List D) (kp : Store → Prop) (p : Pat) (wb : WS) (E : AEnds) (ρ : AR) (S : Store) : Prop := ∃ Iv : Nat → AR → Store → Prop, Iv 0 ρ S ∧ (∀ i ρ S, i ≤ ds.length → Iv i ρ S → kp S) ∧
  (∀ i d ρ S, ds[i]? = some d → Iv i ρ S → ∃ ρ', patW p d ρ = some ρ' ∧ wb { E with nx := Iv (i + 1), ct := Iv (i + 1), bk := E.nx } ρ' S) ∧ ∀ ρ S, Iv ds.length ρ S → E.nx ρ S
theorem s_for {wi : WI} {p : Pat} {wb : WS} {E : AEnds} {ρ : AR} {S : Store} : wFor wi p wb E ρ S ↔ wi ρ S fun ds kp S1 => Fo ds kp p wb E ρ S1 := Iff.rfl
/-- a list (or the script) that is walked -/
theorem wi_l {we : WE} {ρ : AR} {S : Store} {Q : List D → (Store → Prop) → Store → Prop} (h : we ρ S fun x S1 => ∃ xs, asL S1 x = some xs ∧ (xs.length ≤ sizeLine → Q xs (kpL x xs) S1)) : wiAny we ρ S Q := .inl h
theorem wi_t {we : WE} {ρ : AR} {S : Store} {Q : List D → (Store → Prop) → Store → Prop} (h : we ρ S fun x S1 => ∃ xs, asT x = some xs ∧ (xs.length ≤ sizeLine → Q xs (fun _ => True) S1)) : wiAny we ρ S Q := .inr (.inl h)
theorem wi_k {we : WE} {ρ : AR} {S : Store} {Q : List D → (Store → Prop) → Store → Prop} (h : we ρ S fun x S1 => ∃ kvs, x = .dK kvs ∧ Q (kvs.map fun kv => kD kv.1) (fun _ => True) S1) : wiAny we ρ S Q := .inr (.inr (.inl h))
theorem wi_s {we : WE} {ρ : AR} {S : Store} {Q : List D → (Store → Prop) → Store → Prop} (h : we ρ S fun x S1 => ∃ z, x = .str z ∧ Q (signsD z) (fun _ => True) S1) : wiAny we ρ S Q := .inr (.inr (.inr h))
theorem kp_new {x : D} {xs : List D} {S : Store} (h : asL S x = some xs) {a : Addr} {us : List V} (ha : S a = none) : kpL x xs (hd S a us) := asL_new h ha
theorem s_pn {ρ : AR} {S : Store} {Q : List (D × D) → Store → Prop} : wPairs [] ρ S Q ↔ Q [] S := Iff.rfl
theorem s_pc {ρ : AR} {S : Store} {Q : List (D × D) → Store → Prop} {wk wv : WE} {r : List (WE × WE)} : wPairs ((wk, wv) :: r) ρ S Q ↔ wk ρ S fun x S1 => wv ρ S1 fun y S2 => wPairs r ρ S2 fun ps S3 => Q ((x, y) :: ps) S3 := Iff.rfl
theorem s_disp {ρ : AR} {S : Store} {Q : VQ} {ws : List (WE × WE)} : wDisp ws ρ S Q ↔ ∀ p, S p = none → wPairs ws ρ (sup S p (.dK [])) fun ds S2 => S2 p = some (.dK []) ∧ ∃ kvs : List (Key × D), ds = kvs.map (fun kv => (kD kv.1, kv.2)) ∧ kvs.length ≤ 15 ∧ Q (.ref p) (sup S2 p (.dK (dispK kvs))) := Iff.rfl
theorem s_ex {w : Bool → WE} {ρ : AR} {S : Store} {Q : VQ} : wEx w ρ S Q ↔ ∃ m, w m ρ S Q := Iff.rfl
/-! ### a dict that is drawn from: P is what is known of it -/
def DSt (P : List (Key × D) → Prop) (S : Store) (a : Addr) : Prop := ∃ kvs, P kvs ∧ S a = some (.dK kvs)
def DrP (P : List (Key × D) → Prop) (a : Addr) (S S' : Store) : Prop := ∃ kvs, P kvs ∧ S' = sup S a (.dK kvs)
section
variable {P : List (Key × D) → Prop} {S S' S2 : Store} {a b : Addr}
theorem DSt.dr (h : DSt P S a) : DrP P a S S := by
  obtain ⟨kvs, h1, h2⟩ := h
  exact ⟨kvs, h1, (sup_self h2).symm⟩
theorem DrP.ds (h : DrP P a S S') : DSt P S' a := by
  obtain ⟨kvs, h1, rfl⟩ := h
  exact ⟨kvs, h1, sup_same⟩
theorem DrP.trans (h : DrP P a S S') (h2 : DrP P a S' S2) : DrP P a S S2 := by
  obtain ⟨_, _, rfl⟩ := h
  obtain ⟨kvs, h1, rfl⟩ := h2
  exact ⟨kvs, h1, sup_sup⟩
theorem DrP.ne (h : DrP P a S S') (hb : b ≠ a) : S' b = S b := by
  obtain ⟨_, _, rfl⟩ := h
  exact sup_ne hb
theorem DSt.hd (h : DSt P S a) (hb : S b = none) {us : List V} : DSt P (hd S b us) a := by
  obtain ⟨kvs, h1, h2⟩ := h
  have ne : a ≠ b := fun e => by rw [e, hb] at h2; cases h2
  exact ⟨kvs, h1, by rw [← h2]; exact sup_ne ne⟩
theorem DrP.of_hd {us : List V} (h : DrP P a (KR.hd S b us) S2) (ne : a ≠ b) : ∃ S3, S2 = KR.hd S3 b us ∧ DrP P a S S3 := by
  obtain ⟨kvs, h1, rfl⟩ := h
  exact ⟨sup S a (.dK kvs), (sup_comm ne).symm, kvs, h1, rfl⟩
/-- a comprehension each of whose elements is drawn -/
theorem lc_draw {p : Pat} {we : WE} {vs : List Nat} {ρ : AR} {Q : VQ} {m : Bool} {ds : List D} {kp : Store → Prop} (T : D → Prop) (hs : DSt P S a) (hkp : ∀ S', kp S') (hz : ds.length ≤ sizeLine)
    (h : ∀ d ∈ ds, ∀ S1, DSt P S1 a → ∃ ρ', patW p d (wipeD ρ vs) = some ρ' ∧ ∀ Q' : VQ, (∀ y S2, T y → DrP P a S1 S2 → Q' y S2) → we ρ' S1 Q')
    (q : ∀ xs S', xs.length = ds.length → (∀ x ∈ xs, T x) → DrP P a S S' → newL m xs S' Q) : Lc m ds kp p wtYes we vs ρ S Q := by
  refine ⟨fun i acc S' => DrP P a S S' ∧ acc.length = i ∧ ∀ x ∈ acc, T x, ⟨hs.dr, rfl, by simp⟩, fun i acc S' b us _ hb _ => hkp _, fun i d acc S' b us hi hb ⟨dr, hl, hT⟩ => ?_, hz, fun acc S' ⟨dr, hl, hT⟩ => q acc S' hl hT dr⟩
  obtain ⟨ρ', h1, h2⟩ := h d (List.mem_of_getElem? hi) (KR.hd S' b us) (dr.ds.hd hb)
  have ne : a ≠ b := fun e => by
    obtain ⟨kvs, _, h3⟩ := dr.ds
    rw [e, hb] at h3; cases h3
  refine ⟨ρ', h1, h2 _ fun y S2 hy dr2 => ?_⟩
  obtain ⟨S3, e, dr3⟩ := dr2.of_hd ne
  refine ⟨S3, e, by rw [dr3.ne (Ne.symm ne)]; exact hb, dr.trans dr3, by simp [hl], fun x hx => ?_⟩
  rcases List.mem_append.mp hx with hx | hx
  · exact hT x hx
  · rw [List.mem_singleton.mp hx]; exact hy
end
theorem s_r1 {wa : WA} {ρ : AR} {S : Store} {Q : List D → (Store → Prop) → Store → Prop} : wiR1 wa ρ S Q ↔ wa ρ S fun ds S1 => ∃ j : Int, ds = [.int j] ∧ -(2 ^ 62) ≤ j ∧ j < 2 ^ 62 ∧ Q (rangeD 0 j.toNat) (fun _ => True) S1 := Iff.rfl
theorem s_r2 {wa : WA} {ρ : AR} {S : Store} {Q : List D → (Store → Prop) → Store → Prop} : wiR2 wa ρ S Q ↔ wa ρ S fun ds S1 => ∃ i j : Int, ds = [.int i, .int j] ∧ (-(2 ^ 62) ≤ i ∧ i < 2 ^ 62 ∧ -(2 ^ 62) ≤ j ∧ j < 2 ^ 62) ∧ Q (rangeD i (j - i).toNat) (fun _ => True) S1 := Iff.rfl
theorem s_e {wa : WA} {ρ : AR} {S : Store} {Q : List D → (Store → Prop) → Store → Prop} : wiE wa ρ S Q ↔ wa ρ S fun ds S1 => ∃ x xs, ds = [x] ∧ asL S1 x = some xs ∧ (xs.length ≤ sizeLine → Q (enumD xs) (kpL x xs) S1) := Iff.rfl
theorem s_z {wa : WA} {ρ : AR} {S : Store} {Q : List D → (Store → Prop) → Store → Prop} : wiZ wa ρ S Q ↔ wa ρ S fun ds S1 => ∃ x y xs ys, ds = [x, y] ∧ asL S1 x = some xs ∧ asL S1 y = some ys ∧ (xs.length ≤ sizeLine → ys.length ≤ sizeLine → Q (zipD xs ys) (fun S => kpL x xs S ∧ kpL y ys S) S1) := Iff.rfl
/-- a list of trees by what each is -/
theorem list_of {α : Type} {f : α → D} : ∀ {xs : List D}, (∀ x ∈ xs, ∃ y, x = f y) → ∃ ys : List α, xs = ys.map f
  | [], _ => ⟨[], rfl⟩
  | x :: xs, h => by
    obtain ⟨y, e⟩ := h x List.mem_cons_self
    obtain ⟨ys, e2⟩ := list_of (xs := xs) fun z hz => h z (List.mem_cons_of_mem _ hz)
    exact ⟨y :: ys, by rw [e, e2]; rfl⟩
theorem cutD_nat {xs : List D} {a n : Nat} : cutD xs (some (a : Int)) (some ((a : Int) + (n : Int))) = (xs.drop a).take n := by
  unfold cutD
  rw [← Int.natCast_add, HT.sIx_nat, HT.sIx_nat]
  by_cases h : a ≤ xs.length
  · rw [Nat.min_eq_left h, List.take_eq_take_iff, List.length_drop]
    omega
  · rw [List.drop_of_length_le (by omega : xs.length ≤ min a xs.length), List.drop_of_length_le (by omega : xs.length ≤ a), List.take_nil, List.take_nil]
end KR
set_option Elab.async false
set_option linter.all false
set_option maxRecDepth 100000
set_option maxHeartbeats 2000000
namespace KR
open PySem PySem.Spec PyProof.Rows L2
theorem str_len_app (x y : Str) : (x ++ y).length = x.length + y.length := by
  show (x.cps ++ y.cps).size = x.cps.size + y.cps.size
  exact Array.size_append
theorem join0_len : ∀ ts : List Str, (Str.join (Str.ofString "") ts).length = (ts.map (·.length)).sum
  | [] => rfl
  | [x] => by show x.length = x.length + 0; omega
  | x :: y :: r => by
    show (x ++ Str.ofString "" ++ Str.join (Str.ofString "") (y :: r)).length = _
    rw [str_len_app, str_len_app, join0_len (y :: r)]
    show x.length + 0 + _ = x.length + _
    rfl
theorem str_ok_app {x y : Str} (h1 : PyData.strOk x = true) (h2 : PyData.strOk y = true) : PyData.strOk (x ++ y) = true := by
  unfold PyData.strOk at *
  show (x.cps ++ y.cps).all _ = true
  rw [Array.all_append, h1, h2]
  rfl
theorem join0_ok : ∀ ts : List Str, (∀ y ∈ ts, PyData.strOk y = true) → PyData.strOk (Str.join (Str.ofString "") ts) = true
  | [], _ => by decide +kernel
  | [x], h => h x List.mem_cons_self
  | x :: y :: r, h => str_ok_app (str_ok_app (h x List.mem_cons_self) (by decide +kernel)) (join0_ok (y :: r) fun z hz => h z (List.mem_cons_of_mem _ hz))
/-- ''.join(..) -/
theorem join0 {ys : List Str} {d : D} {S : Store} {Q : VQ} (h : asQ S d (ys.map .str)) (hl : (ys.map (·.length)).sum ≤ 1000000) (q : ∀ w : Str, w.length ≤ 1000000 → ((∀ y ∈ ys, PyData.strOk y = true) → PyData.strOk w = true) → Q (.str w) S) : mJoin (.str "") [d] S Q := by
  refine ⟨"", d, ys, rfl, rfl, h, by show _ + ys.length * 0 ≤ _; omega, q _ ?_ ?_⟩
  · rw [TL.join_eq]
    have e := join0_len ys
    exact Nat.le_trans (Nat.le_of_eq e) hl
  · rw [TL.join_eq]
    exact join0_ok ys
theorem sum_one {α : Type} {f : α → Nat} : ∀ {xs : List α}, (∀ x ∈ xs, f x = 1) → (xs.map f).sum = xs.length
  | [], _ => rfl
  | x :: xs, h => by
    rw [List.map_cons, List.sum_cons, h x List.mem_cons_self, sum_one fun y hy => h y (List.mem_cons_of_mem _ hy), List.length_cons]
    omega
theorem s_setdN {wo we wf : WE} {ρ : AR} {S : Store} {Q : VQ} : wSetdN wo we wf ρ S Q ↔ wo ρ S fun x S1 => ∃ a, x = .ref a ∧ (∃ kvs, S1 a = some (.dN kvs)) ∧ we ρ S1 fun y S2 => wf ρ S2 fun z S3 => ∃ kvs k ks, S3 a = some (.dN kvs) ∧ kN y = some k ∧ k = .tup ks ∧ k.depth ≤ 8 ∧ kvs.length < sizeLine ∧
  (∀ d, getN kvs k = some d → Q d S3) ∧ (getN kvs k = none → Q z (sup S3 a (.dN (putN kvs k z)))) := Iff.rfl
theorem s_tcount {wo we : WE} {ρ : AR} {S : Store} {Q : VQ} : wTCount wo we ρ S Q ↔ wo ρ S fun x S1 => ∃ xs, x = .tupz xs ∧ we ρ S1 fun y S2 => flatD y = true ∧ xs.all flatD = true ∧ Q (.int (xs.countP fun z => eqF z y : Nat)) S2 := Iff.rfl
theorem s_xget {K : Kx} {f : Str} {we : WE} {ρ : AR} {S : Store} {Q : VQ} : wXGet K f we ρ S Q ↔ we ρ S fun x S1 => ∃ C fs d, x = .exc C fs ∧ fs ≠ [] ∧ ExC K.K C ∧ PySem.W.findIn K.K (.ref C) f = some none ∧ fs.lookup f = some d ∧ Q d S1 := Iff.rfl
theorem s_get {K : Kx} {f : Str} {we : WE} {ρ : AR} {S : Store} {Q : VQ} : wGet K f we ρ S Q ↔ we ρ S fun x S1 => ∃ C fs d, asI S1 x = some (C, fs) ∧ FldOk K.K C f ∧ fs.lookup f = some d ∧ Q d S1 := Iff.rfl
theorem s_fld {K : Kx} {f : Str} {wo wv : WE} {E : AEnds} {ρ : AR} {S : Store} : wFld K f wo wv E ρ S ↔ wv ρ S fun y S1 => wo ρ S1 fun x S2 => ∃ a C fs, x = .ref a ∧ S2 a = some (.ins C fs) ∧ FldOk K.K C f ∧ fs.length < 1000 ∧ E.nx ρ (sup S2 a (.ins C (putFD f y fs))) := Iff.rfl
theorem s_meth {C : Addr} {m : Str} {A : ASp} {dds : List D} {Wx : XQ} {wo : WE} {wa : WA} {ρ : AR} {S : Store} {Q : VQ} : wMeth C m A dds Wx wo wa ρ S Q ↔ wo ρ S fun x S1 => (∃ fs, asI S1 x = some (C, fs) ∧ fs.lookup m = none) ∧ wa ρ S1 fun ds S2 => A (x :: (ds ++ dds)) S2 Q fun c p S' => Wx c p ρ S' := Iff.rfl
theorem s_make {C : Addr} {A : ASp} {dds : List D} {wa : WA} {ρ : AR} {S : Store} {Q : VQ} : wMake C A dds wa ρ S Q ↔ wa ρ S fun ds S1 => ∀ x, S1 x = none → A (.ref x :: (ds ++ dds)) (sup S1 x (.ins C [])) (fun d S2 => d = .non ∧ Q (.ref x) S2) fun _ _ _ => False := Iff.rfl
theorem s_raise {C : Addr} {Wx : XQ} {E : AEnds} {ρ : AR} {S : Store} : wRaise C Wx E ρ S ↔ Wx (.ref C) none ρ S := Iff.rfl
theorem s_raiseI {C : Addr} {f : Str} {wa : WA} {Wx : XQ} {E : AEnds} {ρ : AR} {S : Store} : wRaiseI C f wa Wx E ρ S ↔ wa ρ S fun ds S1 => ∃ y, ds = [y] ∧ Wx (.ref C) (some (f, y)) ρ S1 := Iff.rfl
theorem s_dget2 {wo we wf : WE} {ρ : AR} {S : Store} {Q : VQ} : wDGet2 wo we wf ρ S Q ↔ wo ρ S fun x S1 => (∃ y o, DG S1 x y o) ∧ we ρ S1 fun y S2 => wf ρ S2 fun z S3 => ∃ o, DG S3 x y o ∧ Q (o.getD z) S3 := Iff.rfl
end KR
set_option Elab.async false
set_option linter.all false
set_option maxRecDepth 100000
set_option maxHeartbeats 2000000
namespace KR
open PySem PySem.Spec PyProof.Rows L2
theorem s_try {K : Kx} {c : Value} {i : Nat} {wb : XQ → WS} {ws : WS} {Wout : XQ} {E : AEnds} {ρ : AR} {S : Store} : wTry K c i wb ws Wout E ρ S ↔ wb (fun cls pl ρ' S' => ∃ b C, cls = .ref C ∧ PySem.W.exmOne K.K cls c = some b ∧
  (b = true → ws { nx := fun ρ2 S2 => E.nx (ρ2.set i none) S2, rt := E.rt, bk := fun ρ2 S2 => E.bk (ρ2.set i none) S2, ct := fun ρ2 S2 => E.ct (ρ2.set i none) S2 } (ρ'.set i (some (.exc C (plF pl)))) S') ∧ (b = false → Wout cls pl ρ' S')) E ρ S := Iff.rfl
theorem s_cut {w1 w2 : WS} {E : AEnds} {ρ : AR} {S : Store} : wCut w1 w2 E ρ S ↔ ∃ Mid : AR → Store → Prop, w1 { E with nx := Mid } ρ S ∧ ∀ ρ' S', Mid ρ' S' → w2 E ρ' S' := Iff.rfl
theorem cutD_to {xs : List D} {n : Nat} : cutD xs none (some (n : Int)) = xs.take n := by
  unfold cutD
  rw [HT.sIx_nat]
  show (xs.drop 0).take (min n xs.length - 0) = _
  rw [List.drop_zero, Nat.sub_zero, List.take_eq_take_iff]
  omega
theorem cutD_from {xs : List D} {n : Nat} : cutD xs (some (n : Int)) none = xs.drop n := by
  unfold cutD
  rw [HT.sIx_nat]
  show (xs.drop (min n xs.length)).take (xs.length - min n xs.length) = _
  by_cases h : n ≤ xs.length
  · rw [Nat.min_eq_left h, List.take_of_length_le (by rw [List.length_drop]; omega)]
  · rw [List.drop_of_length_le (by omega : xs.length ≤ min n xs.length), List.drop_of_length_le (by omega : xs.length ≤ n), List.take_nil]
theorem cutD_nil {lo hi : Option Int} : cutD [] lo hi = [] := by
  unfold cutD
  simp
theorem s_max2 {a b : Int} {S : Store} {Q : VQ} : oMax2 [.int a, .int b] S Q ↔ Q (.int (if b > a then b else a)) S := Iff.rfl
theorem s_min2 {a b : Int} {S : Store} {Q : VQ} : oMin2 [.int a, .int b] S Q ↔ Q (.int (if b < a then b else a)) S := Iff.rfl
theorem slB {x : D} {xs : List D} {lo hi : Option Int} {S : Store} {Q : VQ} (h : asL S x = some xs) (q : newLL (cutD xs lo hi) S Q) : oSlB x lo hi S Q := by
  unfold oSlB
  split
  · cases h
  · rw [h]; exact q
/-! ### == of trees -/
mutual
/-- a tree of numbers, valid texts, truths, None, lists, tuples -/
def isT : D → Bool
  | .non => true
  | .bl _ => true
  | .int _ => true
  | .str x => PyData.strOk x
  | .lst xs => isTs xs
  | .tup xs => isTs xs
  | .tupz xs => isTs xs
  | _ => false
def isTs : List D → Bool
  | [] => true
  | d :: ds => isT d && isTs ds
end
mutual
def toP : D → PyData
  | .bl b => .bool b
  | .int i => .int i
  | .str x => .str x
  | .lst xs => .list (toPs xs)
  | .tup xs => .tuple (toPs xs)
  | .tupz xs => .tuple (toPs xs)
  | _ => .none
def toPs : List D → List PyData
  | [] => []
  | d :: ds => toP d :: toPs ds
end
mutual
theorem pv_toP {S : Store} : ∀ {d : D}, isT d = true → Pv S d (toP d)
  | .non, _ => by unfold toP; exact .non
  | .bl b, _ => by unfold toP; exact .bl b
  | .int i, _ => by unfold toP; exact .int i
  | .str x, _ => by unfold toP; exact .str x
  | .lst xs, h => by unfold toP; unfold isT at h; exact .lst rfl (pv_toPs h)
  | .tup xs, h => by unfold toP; unfold isT at h; exact .tup rfl (pv_toPs h)
  | .tupz xs, h => by unfold toP; unfold isT at h; exact .tup rfl (pv_toPs h)
  | .ref _, h => by unfold isT at h; cases h
  | .dK _, h => by unfold isT at h; cases h
  | .dT _, h => by unfold isT at h; cases h
  | .dN _, h => by unfold isT at h; cases h
  | .ins _ _, h => by unfold isT at h; cases h
  | .raw _, h => by unfold isT at h; cases h
  | .scr _, h => by unfold isT at h; cases h
  | .kt _, h => by unfold isT at h; cases h
  | .exc _ _, h => by unfold isT at h; cases h
theorem pv_toPs {S : Store} : ∀ {ds : List D}, isTs ds = true → PvAll S ds (toPs ds)
  | [], _ => by unfold toPs; exact .nil
  | d :: ds, h => by
    unfold isTs at h
    rw [Bool.and_eq_true] at h
    unfold toPs
    exact .cons (pv_toP h.1) (pv_toPs h.2)
end
mutual
theorem lay_toP : ∀ {d : D}, isT d = true → (toP d).canLay0 = true
  | .non, _ => by unfold toP PyData.canLay0; rfl
  | .bl b, _ => by unfold toP PyData.canLay0; rfl
  | .int i, _ => by unfold toP PyData.canLay0; rfl
  | .str x, h => by unfold toP PyData.canLay0; unfold isT at h; exact h
  | .lst xs, h => by unfold toP PyData.canLay0; unfold isT at h; exact lay_toPs h
  | .tup xs, h => by unfold toP PyData.canLay0; unfold isT at h; exact lay_toPs h
  | .tupz xs, h => by unfold toP PyData.canLay0; unfold isT at h; exact lay_toPs h
  | .ref _, h => by unfold isT at h; cases h
  | .dK _, h => by unfold isT at h; cases h
  | .dT _, h => by unfold isT at h; cases h
  | .dN _, h => by unfold isT at h; cases h
  | .ins _ _, h => by unfold isT at h; cases h
  | .raw _, h => by unfold isT at h; cases h
  | .scr _, h => by unfold isT at h; cases h
  | .kt _, h => by unfold isT at h; cases h
  | .exc _ _, h => by unfold isT at h; cases h
theorem lay_toPs : ∀ {ds : List D}, isTs ds = true → PyData.canLayAll0 (toPs ds) = true
  | [], _ => by unfold toPs PyData.canLayAll0; rfl
  | d :: ds, h => by
    unfold isTs at h
    rw [Bool.and_eq_true] at h
    unfold toPs PyData.canLayAll0
    rw [lay_toP h.1, lay_toPs h.2]
    rfl
end
mutual
/-- how deep -/
def dpD : D → Nat
  | .lst xs => dpDs xs + 1
  | .tup xs => dpDs xs + 1
  | .tupz xs => dpDs xs + 1
  | _ => 0
def dpDs : List D → Nat
  | [] => 0
  | d :: ds => max (dpD d) (dpDs ds)
end
mutual
theorem dp_toP : ∀ {d : D}, (toP d).depth = dpD d
  | .lst xs => by unfold toP PyData.depth dpD; rw [dp_toPs]
  | .tup xs => by unfold toP PyData.depth dpD; rw [dp_toPs]
  | .tupz xs => by unfold toP PyData.depth dpD; rw [dp_toPs]
  | .non => by unfold toP PyData.depth dpD; rfl
  | .bl b => by unfold toP PyData.depth dpD; rfl
  | .int i => by unfold toP PyData.depth dpD; rfl
  | .str x => by unfold toP PyData.depth dpD; rfl
  | .ref _ => by unfold toP PyData.depth dpD; rfl
  | .dK _ => by unfold toP PyData.depth dpD; rfl
  | .dT _ => by unfold toP PyData.depth dpD; rfl
  | .dN _ => by unfold toP PyData.depth dpD; rfl
  | .ins _ _ => by unfold toP PyData.depth dpD; rfl
  | .raw _ => by unfold toP PyData.depth dpD; rfl
  | .scr _ => by unfold toP PyData.depth dpD; rfl
  | .kt _ => by unfold toP PyData.depth dpD; rfl
  | .exc _ _ => by unfold toP PyData.depth dpD; rfl
theorem dp_toPs : ∀ {ds : List D}, PyData.depthAll (toPs ds) = dpDs ds
  | [] => by unfold toPs PyData.depthAll dpDs; rfl
  | d :: ds => by unfold toPs PyData.depthAll dpDs; rw [dp_toP, dp_toPs]
end
theorem dpDs_le {n : Nat} : ∀ {ds : List D}, (∀ d ∈ ds, dpD d ≤ n) → dpDs ds ≤ n
  | [], _ => by unfold dpDs; exact Nat.zero_le _
  | d :: ds, h => by
    unfold dpDs
    have h1 := h d List.mem_cons_self
    have h2 := dpDs_le fun e he => h e (List.mem_cons_of_mem _ he)
    omega
theorem isTs_all : ∀ {ds : List D}, (∀ d ∈ ds, isT d = true) → isTs ds = true
  | [], _ => by unfold isTs; rfl
  | d :: ds, h => by unfold isTs; rw [h d List.mem_cons_self, isTs_all fun e he => h e (List.mem_cons_of_mem _ he)]; rfl
theorem toPs_map {ds : List D} : toPs ds = ds.map toP := by
  induction ds with
  | nil => unfold toPs; rfl
  | cons d ds ih => unfold toPs; rw [List.map_cons, ih]
theorem eqv_same {p : PyData} (h : p.canLay0 = true) : PyData.eqv p p = true := by
  exact SeqAt.eqv_refl p h
/-- x == y, of one view -/
theorem eq_same {neg : Bool} {x y : D} {p : PyData} {S : Store} {Q : VQ} (hf : flatE x y = none) (h1 : Pv S x p) (h2 : Pv S y p) (hc : p.canLay0 = true) (hd : p.depth ≤ 64) (q : Q (.bl (!neg)) S) : oEq neg x y S Q := by
  have sh : SeqAt.shaped p = true := by unfold SeqAt.shaped; rw [hc, decide_eq_true hd]; rfl
  refine eq_p hf h1 h2 sh sh ?_
  rw [eqv_same hc]
  cases neg <;> exact q
/-- x == [] -/
theorem eq_nil {neg : Bool} {xs : List D} {S : Store} {Q : VQ} (ht : isTs xs = true) (hd : dpDs xs ≤ 60) (q : Q (.bl (xs.isEmpty != neg)) S) : oEq neg (.lst xs) (.lst []) S Q := by
  refine eq_p rfl (pv_toP (d := .lst xs) (by unfold isT; exact ht)) (pv_toP (d := .lst []) (by unfold isT isTs; rfl)) ?_ (by unfold toP toPs; decide) ?_
  · unfold SeqAt.shaped
    rw [lay_toP (by unfold isT; exact ht), dp_toP]
    unfold dpD
    rw [decide_eq_true (by omega)]
    rfl
  · cases xs with
    | nil => exact q
    | cons x xs => exact q
/-- trees that are the same -/
theorem eq_tree {neg : Bool} {x : D} {S : Store} {Q : VQ} (hf : flatE x x = none) (ht : isT x = true) (hd : dpD x ≤ 60) (q : Q (.bl (!neg)) S) : oEq neg x x S Q :=
  eq_same hf (pv_toP ht) (pv_toP ht) (lay_toP ht) (by rw [dp_toP]; omega) q
/-- a list of lists, wherever it stands -/
theorem pv_rows {S : Store} {d : D} {ds : List D} {rs : List (List D)} (h : asL S d = some ds) (hp : Paired (fun x r => asL S x = some r) ds rs) (ht : ∀ r ∈ rs, isTs r = true) : Pv S d (toP (.lst (rs.map .lst))) := by
  unfold toP
  refine .lst h ?_
  clear h
  induction hp with
  | nil => unfold toPs; exact .nil
  | cons h t ih =>
    rw [List.map_cons]
    unfold toPs
    refine .cons ?_ (ih fun r hr => ht r (List.mem_cons_of_mem _ hr))
    unfold toP
    exact .lst h (pv_toPs (ht _ List.mem_cons_self))
/-- tuples of texts -/
theorem eqvAll_str : ∀ {xs ys : List Str}, PyData.eqvAll (toPs (xs.map .str)) (toPs (ys.map .str)) = decide (xs = ys)
  | [], [] => by simp [toPs, PyData.eqvAll]
  | [], y :: ys => by simp [toPs, PyData.eqvAll]
  | x :: xs, [] => by simp [toPs, PyData.eqvAll]
  | x :: xs, y :: ys => by
    have ih := eqvAll_str (xs := xs) (ys := ys)
    rw [List.map_cons, List.map_cons]
    unfold toPs PyData.eqvAll
    rw [ih]
    unfold toP PyData.eqv
    by_cases h1 : x = y
    · subst h1; simp
    · simp [h1]
theorem isTs_str {xs : List Str} (h : ∀ x ∈ xs, PyData.strOk x = true) : isTs (xs.map .str) = true := isTs_all fun d hd => by
  obtain ⟨x, hx, rfl⟩ := List.mem_map.mp hd
  unfold isT
  exact h x hx
theorem dpDs_str {xs : List Str} : dpDs (xs.map .str) = 0 := Nat.le_zero.mp (dpDs_le fun d hd => by
  obtain ⟨x, hx, rfl⟩ := List.mem_map.mp hd
  unfold dpD
  exact Nat.le_refl _)
/-- two tuples of texts -/
theorem eq_tups {neg : Bool} {xs ys : List Str} {S : Store} {Q : VQ} (h1 : ∀ x ∈ xs, PyData.strOk x = true) (h2 : ∀ x ∈ ys, PyData.strOk x = true) (q : Q (.bl (decide (xs = ys) != neg)) S) : oEq neg (.tupz (xs.map .str)) (.tupz (ys.map .str)) S Q := by
  have sh : ∀ {zs : List Str}, (∀ x ∈ zs, PyData.strOk x = true) → SeqAt.shaped (toP (.tupz (zs.map .str))) = true := fun {zs} hz => by
    unfold SeqAt.shaped
    rw [lay_toP (by unfold isT; exact isTs_str hz), dp_toP]
    unfold dpD
    rw [dpDs_str]
    rfl
  refine eq_p rfl (pv_toP (by unfold isT; exact isTs_str h1)) (pv_toP (by unfold isT; exact isTs_str h2)) (sh h1) (sh h2) ?_
  unfold toP PyData.eqv
  rw [eqvAll_str]
  exact q
end KR
set_option Elab.async false
set_option linter.all false
set_option maxRecDepth 100000
set_option maxHeartbeats 2000000
namespace KR
open PySem PySem.Spec PyProof.Rows L2
/-- a law's end over a head by facts, the context's promise one for each world -/
theorem walk_ofW {l : PySem.W.OpenLaw} {n k : Nat} {q : Program} {loose : List Str} {XP : (Str → Option Value) → Heap → Prop} {YP : World → Heap → Prop} {d : DefRec} {x : Str}
    (most : l.most = some n) (size : n ≤ sizeLine) (nodf : d.params.defaults = []) (room : Room k callerA)
    (F : ∀ (w : World) (mg : Str → Option Value) (fa : Addr) (h : Heap), YP w h → h.Ns mainGlobals mg → mg d.name = some (.ref fa) →
      ∃ (K : PySem.W.Frag) (fd : FuncData) (sp : Sp), K.In h ∧ (∀ (s : Shared) (u : Value), BindsTo s fd ⟨[u], []⟩ [(x, u)]) ∧ (∀ (H : Hp) (a : Addr) (ns : List Int), ns.length ≤ n → Only H → SqL K H a (ns.map V.int) → sp [.ref a] H (fun v _ => v = .bl true) fun _ _ _ => False) ∧ ∀ base : Heap, K.In base → base.Ns mainGlobals mg → FnOk l.prog w K mg base (L2.CX l.prog w) k fa fd [x] sp) :
    PySem.W.WalkO q loose XP YP l.row.toRowW d [] (fun f vs => PySem.call f vs) := by
  refine Att.attach_call most nodf fun w s₀ s₁ mg mb fa o pm cd doc a vs ns G Y o1 o2 o3 gm o4 o5 o6 o7 => ?_
  obtain ⟨K, fd, sp, KX, bt, spec, ok⟩ := F w mg fa _ Y G.T.g gm
  exact law_call KX G.T.g G.T.b G.T.builtins G.T.nolimit o7 o4 o5 (Nat.le_trans o6 size) room ok bt (fun H p q => spec H a ns o6 p q) fun H e s' => cx_false H s₁ e s'
end KR
set_option Elab.async false
set_option linter.all false
set_option maxRecDepth 100000
set_option maxHeartbeats 4000000
namespace N42
open PySem PySem.Spec PyProof.Rows L2 KR
def top (i : Nat) : Stmt := PySem.Challenge.pw_kinrows_k42_forms_of_stretches.main.body.getD i (.Pass ⟨0, 0, 0, 0⟩)
abbrev s_law_begin : Stmt := (top 15)
def d_law_begin : He.DefD := ⟨("_law_begin", none), "_law_begin", "_law_begin", defArgs s_law_begin, defBody s_law_begin, defScope s_law_begin, [], []⟩
theorem sc_law_begin : FnScope ["_law_script", "_law_mixed", "_law_cell"] ["_law_script"] (defScope s_law_begin) := ⟨rfl, rfl, rfl, by decide +kernel, rfl, by decide +kernel, by decide +kernel⟩
abbrev s_law_more : Stmt := (top 16)
def d_law_more : He.DefD := ⟨("_law_more", none), "_law_more", "_law_more", defArgs s_law_more, defBody s_law_more, defScope s_law_more, [], []⟩
theorem sc_law_more : FnScope ["_law_state", "_law_k", "_law_cell", "_law_one", "_law_two", "_law_three"] ["_law_state"] (defScope s_law_more) := ⟨rfl, rfl, rfl, by decide +kernel, rfl, by decide +kernel, by decide +kernel⟩
abbrev s_law_next : Stmt := (top 17)
def d_law_next : He.DefD := ⟨("_law_next", none), "_law_next", "_law_next", defArgs s_law_next, defBody s_law_next, defScope s_law_next, [], []⟩
theorem sc_law_next : FnScope ["_law_state", "_law_many", "_law_found"] ["_law_state", "_law_many"] (defScope s_law_next) := ⟨rfl, rfl, rfl, by decide +kernel, rfl, by decide +kernel, by decide +kernel⟩
abbrev s_law_pick : Stmt := (top 18)
def d_law_pick : He.DefD := ⟨("_law_pick", none), "_law_pick", "_law_pick", defArgs s_law_pick, defBody s_law_pick, defScope s_law_pick, [], []⟩
theorem sc_law_pick : FnScope ["_law_state", "_law_some"] ["_law_state", "_law_some"] (defScope s_law_pick) := ⟨rfl, rfl, rfl, by decide +kernel, rfl, by decide +kernel, by decide +kernel⟩
abbrev s_law_shape : Stmt := (top 21)
def d_law_shape : He.DefD := ⟨("_law_shape", none), "_law_shape", "_law_shape", defArgs s_law_shape, defBody s_law_shape, defScope s_law_shape, [], []⟩
theorem sc_law_shape : FnScope ["_law_state", "_law_way", "_law_k"] ["_law_state"] (defScope s_law_shape) := ⟨rfl, rfl, rfl, by decide +kernel, rfl, by decide +kernel, by decide +kernel⟩
abbrev s_law_word : Stmt := (top 19)
def d_law_word : He.DefD := ⟨("_law_word", none), "_law_word", "_law_word", defArgs s_law_word, defBody s_law_word, defScope s_law_word, [], []⟩
theorem sc_law_word : FnScope ["_law_state", "_law_letters", "_law_figures", "_law_sort", "_law_many", "_law_k"] ["_law_state"] (defScope s_law_word) := ⟨rfl, rfl, rfl, by decide +kernel, rfl, by decide +kernel, by decide +kernel⟩
abbrev s_law_pool : Stmt := (top 20)
def d_law_pool : He.DefD := ⟨("_law_pool", none), "_law_pool", "_law_pool", defArgs s_law_pool, defBody s_law_pool, defScope s_law_pool, [], []⟩
theorem sc_law_pool : FnScope ["_law_state", "_law_k"] ["_law_state"] (defScope s_law_pool) := ⟨rfl, rfl, rfl, by decide +kernel, rfl, by decide +kernel, by decide +kernel⟩
abbrev s_Shape_init : Stmt := (inClass (top 5) 0)
def d_Shape_init : He.DefD := ⟨("Shape", some "__init__"), "__init__", "Shape.__init__", defArgs s_Shape_init, defBody s_Shape_init, defScope s_Shape_init, [], []⟩
theorem sc_Shape_init : FnScope ["self", "row"] ["self", "row"] (defScope s_Shape_init) := ⟨rfl, rfl, rfl, by decide +kernel, rfl, by decide +kernel, by decide +kernel⟩
abbrev s_need_shape : Stmt := (top 10)
def d_need_shape : He.DefD := ⟨("need_shape", none), "need_shape", "need_shape", defArgs s_need_shape, defBody s_need_shape, defScope s_need_shape, [], []⟩
theorem sc_need_shape : FnScope ["forms", "row", "sizes", "form"] ["forms"] (defScope s_need_shape) := ⟨rfl, rfl, rfl, by decide +kernel, rfl, by decide +kernel, by decide +kernel⟩
abbrev s_in_rows : Stmt := (top 11)
def d_in_rows : He.DefD := ⟨("in_rows", none), "in_rows", "in_rows", defArgs s_in_rows, defBody s_in_rows, defScope s_in_rows, [], []⟩
theorem sc_in_rows : FnScope ["items", "like", "found", "at", "row"] ["items", "like"] (defScope s_in_rows) := ⟨rfl, rfl, rfl, by decide +kernel, rfl, by decide +kernel, by decide +kernel⟩
abbrev s_items_of : Stmt := (top 9)
def d_items_of : He.DefD := ⟨("items_of", none), "items_of", "items_of", defArgs s_items_of, defBody s_items_of, defScope s_items_of, [], []⟩
theorem sc_items_of : FnScope ["rows", "found", "row"] ["rows"] (defScope s_items_of) := ⟨rfl, rfl, rfl, by decide +kernel, rfl, by decide +kernel, by decide +kernel⟩
abbrev s_opened : Stmt := (top 12)
def d_opened : He.DefD := ⟨("opened", none), "opened", "opened", defArgs s_opened, defBody s_opened, defScope s_opened, [], []⟩
theorem sc_opened : FnScope ["words", "keys", "holes", "found", "word", "key"] ["words", "keys"] (defScope s_opened) := ⟨rfl, rfl, rfl, by decide +kernel, rfl, by decide +kernel, by decide +kernel⟩
abbrev s_form_of : Stmt := (top 13)
def d_form_of : He.DefD := ⟨("form_of", none), "form_of", "form_of", defArgs s_form_of, defBody s_form_of, defScope s_form_of, [], []⟩
theorem sc_form_of : FnScope ["stretches", "rows", "keys", "words", "k", "word", "key", "stretch", "row"] ["stretches"] (defScope s_form_of) := ⟨rfl, rfl, rfl, by decide +kernel, rfl, by decide +kernel, by decide +kernel⟩
abbrev s_law_classes : Stmt := (top 29)
def d_law_classes : He.DefD := ⟨("_law_classes", none), "_law_classes", "_law_classes", defArgs s_law_classes, defBody s_law_classes, defScope s_law_classes, [], []⟩
theorem sc_law_classes : FnScope ["_law_error", "_law_found"] ["_law_error"] (defScope s_law_classes) := ⟨rfl, rfl, rfl, by decide +kernel, rfl, by decide +kernel, by decide +kernel⟩
abbrev s_law_asked : Stmt := (top 30)
def d_law_asked : He.DefD := ⟨("_law_asked", none), "_law_asked", "_law_asked", defArgs s_law_asked, defBody s_law_asked, defScope s_law_asked, [], []⟩
theorem sc_law_asked : FnScope ["_law_given", "_law_caught", "_law_found", "_law_error"] ["_law_given"] (defScope s_law_asked) := ⟨rfl, rfl, rfl, by decide +kernel, rfl, by decide +kernel, by decide +kernel⟩
abbrev s_law_unlike : Stmt := (top 33)
def d_law_unlike : He.DefD := ⟨("_law_unlike", none), "_law_unlike", "_law_unlike", defArgs s_law_unlike, defBody s_law_unlike, defScope s_law_unlike, [], []⟩
theorem sc_law_unlike : FnScope ["_law_some", "_law_row", "_law_here", "_law_one"] ["_law_some"] (defScope s_law_unlike) := ⟨rfl, rfl, rfl, by decide +kernel, rfl, by decide +kernel, by decide +kernel⟩
abbrev s_law_in_rows : Stmt := (top 22)
def d_law_in_rows : He.DefD := ⟨("_law_in_rows", none), "_law_in_rows", "_law_in_rows", defArgs s_law_in_rows, defBody s_law_in_rows, defScope s_law_in_rows, [], []⟩
theorem sc_law_in_rows : FnScope ["_law_items_here", "_law_shape_here", "_law_found", "_law_at", "_law_size"] ["_law_items_here", "_law_shape_here"] (defScope s_law_in_rows) := ⟨rfl, rfl, rfl, by decide +kernel, rfl, by decide +kernel, by decide +kernel⟩
abbrev s_law_stretch : Stmt := (top 31)
def d_law_stretch : He.DefD := ⟨("_law_stretch", none), "_law_stretch", "_law_stretch", defArgs s_law_stretch, defBody s_law_stretch, defScope s_law_stretch, [], []⟩
theorem sc_law_stretch : FnScope ["_law_state", "_law_shape_here", "_law_pool_here", "_law_k"] ["_law_state", "_law_shape_here", "_law_pool_here"] (defScope s_law_stretch) := ⟨rfl, rfl, rfl, by decide +kernel, rfl, by decide +kernel, by decide +kernel⟩
abbrev s_law_reshaped : Stmt := (top 26)
def d_law_reshaped : He.DefD := ⟨("_law_reshaped", none), "_law_reshaped", "_law_reshaped", defArgs s_law_reshaped, defBody s_law_reshaped, defScope s_law_reshaped, [], []⟩
theorem sc_law_reshaped : FnScope ["_law_way", "_law_place", "_law_rows", "_law_at", "_law_row", "_law_k"] ["_law_way", "_law_place", "_law_rows"] (defScope s_law_reshaped) := ⟨rfl, rfl, rfl, by decide +kernel, rfl, by decide +kernel, by decide +kernel⟩
abbrev s_law_copy : Stmt := (top 23)
def d_law_copy : He.DefD := ⟨("_law_copy", none), "_law_copy", "_law_copy", defArgs s_law_copy, defBody s_law_copy, defScope s_law_copy, [], []⟩
theorem sc_law_copy : FnScope ["_law_rows", "_law_row"] ["_law_rows"] (defScope s_law_copy) := ⟨rfl, rfl, rfl, by decide +kernel, rfl, by decide +kernel, by decide +kernel⟩
abbrev s_law_own : Stmt := (top 34)
def d_law_own : He.DefD := ⟨("_law_own", none), "_law_own", "_law_own", defArgs s_law_own, defBody s_law_own, defScope s_law_own, [], []⟩
theorem sc_law_own : FnScope ["_law_found", "_law_kept", "_law_row"] ["_law_found"] (defScope s_law_own) := ⟨rfl, rfl, rfl, by decide +kernel, rfl, by decide +kernel, by decide +kernel⟩
abbrev s_law_shape_of : Stmt := (top 25)
def d_law_shape_of : He.DefD := ⟨("_law_shape_of", none), "_law_shape_of", "_law_shape_of", defArgs s_law_shape_of, defBody s_law_shape_of, defScope s_law_shape_of, [], []⟩
theorem sc_law_shape_of : FnScope ["_law_rows", "_law_row"] ["_law_rows"] (defScope s_law_shape_of) := ⟨rfl, rfl, rfl, by decide +kernel, rfl, by decide +kernel, by decide +kernel⟩
abbrev s_law_items : Stmt := (top 24)
def d_law_items : He.DefD := ⟨("_law_items", none), "_law_items", "_law_items", defArgs s_law_items, defBody s_law_items, defScope s_law_items, [], []⟩
theorem sc_law_items : FnScope ["_law_rows", "_law_found", "_law_row"] ["_law_rows"] (defScope s_law_items) := ⟨rfl, rfl, rfl, by decide +kernel, rfl, by decide +kernel, by decide +kernel⟩
abbrev s_law_hole : Stmt := (top 27)
def d_law_hole : He.DefD := ⟨("_law_hole", none), "_law_hole", "_law_hole", defArgs s_law_hole, defBody s_law_hole, defScope s_law_hole, [], []⟩
theorem sc_law_hole : FnScope ["_law_item"] ["_law_item"] (defScope s_law_hole) := ⟨rfl, rfl, rfl, by decide +kernel, rfl, by decide +kernel, by decide +kernel⟩
abbrev s_law_is_form : Stmt := (top 28)
def d_law_is_form : He.DefD := ⟨("_law_is_form", none), "_law_is_form", "_law_is_form", defArgs s_law_is_form, defBody s_law_is_form, defScope s_law_is_form, [], []⟩
theorem sc_law_is_form : FnScope ["_law_thing", "_law_shape_here", "_law_many", "_law_item", "_law_row"] ["_law_thing", "_law_shape_here"] (defScope s_law_is_form) := ⟨rfl, rfl, rfl, by decide +kernel, rfl, by decide +kernel, by decide +kernel⟩
abbrev s_law_right : Stmt := (top 32)
def d_law_right : He.DefD := ⟨("_law_right", none), "_law_right", "_law_right", defArgs s_law_right, defBody s_law_right, defScope s_law_right, [], []⟩
theorem sc_law_right : FnScope ["_law_found", "_law_given", "_law_items_here", "_law_rows", "_law_columns", "_law_p", "_law_same", "_law_q", "_law_stretch_here", "_law_alike", "_law_row"] ["_law_found", "_law_given"] (defScope s_law_right) := ⟨rfl, rfl, rfl, by decide +kernel, rfl, by decide +kernel, by decide +kernel⟩
abbrev s_law : Stmt := (top 35)
def d_law : He.DefD := ⟨("law", none), "law", "law", defArgs s_law, defBody s_law, defScope s_law, [], []⟩
theorem sc_law : FnScope ["_law_script", "_law_state", "_law_spoil", "_law_way", "_law_place", "_law_which", "_law_twice", "_law_many", "_law_shape_here", "_law_pool_here", "_law_given", "_law_handed", "_law_told", "_law_row", "_law_k", "_law_stretch_here", "_law_size"] ["_law_script"] (defScope s_law) := ⟨rfl, rfl, rfl, by decide +kernel, rfl, by decide +kernel, by decide +kernel⟩
def fa : List Fb := [
  .old (.free "list"),
  .old (.free "len"),
  .old (.glo "_law_more"),
  .old (.glo "_law_next"),
  .old (.free "range"),
  .old (.glo "_law_pick"),
  .old (.glo "_law_word"),
  .old (.free "max"),
  .oex "Shape",
  .old (.noat "Shape" "row"),
  .old (.glo "Shape"),
  .old (.free "zip"),
  .old (.exc "NoRows"),
  .old (.glo "NoRows"),
  .old (.glo "need_shape"),
  .old (.glo "items_of"),
  .old (.free "enumerate"),
  .old (.free "tuple"),
  .old (.glo "opened"),
  .old (.glo "in_rows"),
  .old (.glo "BadForm"),
  .old (.free "isinstance"),
  .old (.glo "BadWord"),
  .old (.glo "BadRow"),
  .old (.glo "BadFilling"),
  .old (.free "ValueError"),
  .old (.glo "form_of"),
  .old (.glo "KinError"),
  .old (.glo "_law_classes"),
  .old (.free "sum"),
  .old (.glo "_law_in_rows"),
  .old (.glo "_law_copy"),
  .old (.free "int"),
  .old (.free "bool"),
  .old (.glo "_law_items"),
  .old (.glo "_law_hole"),
  .old (.free "str"),
  .old (.glo "_law_shape_of"),
  .old (.glo "_law_is_form"),
  .old (.glo "_law_begin"),
  .old (.glo "_law_shape"),
  .old (.glo "_law_pool"),
  .old (.glo "_law_stretch"),
  .old (.glo "_law_reshaped"),
  .old (.glo "_law_asked"),
  .old (.glo "_law_unlike"),
  .old (.glo "_law_right"),
  .old (.glo "_law_own"),
  .kitTT "list" "list" true,
  .kitTT "int" "int" true,
  .kitTT "str" "int" false,
  .kitTT "str" "str" true,
  .kitTT "int" "bool" false,
  .old (.glo "law"),
  .exc2 "Shape",
  .exc2 "NoRows",
  .kit "Shape" "Shape" true,
  .kit "Shape" "NoRows" false,
  .kit "Shape" "BadForm" false,
  .kit "Shape" "BadFilling" false,
  .kit "Shape" "BadRow" false,
  .kit "Shape" "BadWord" false,
  .kit "NoRows" "Shape" false,
  .kit "NoRows" "NoRows" true,
  .kit "NoRows" "BadForm" false,
  .kit "NoRows" "BadFilling" false,
  .kit "NoRows" "BadRow" false,
  .kit "NoRows" "BadWord" false,
  .kitT "Shape" "ValueError" true,
  .kitT "NoRows" "ValueError" true,
  .old (.exm "Shape" "KinError" true),
  .old (.exm "NoRows" "KinError" true)]
def fn : List He.DefD := [d_law_begin, d_law_more, d_law_next, d_law_pick, d_law_shape, d_law_word, d_law_pool, d_Shape_init, d_need_shape, d_in_rows, d_items_of, d_opened, d_form_of, d_law_classes, d_law_asked, d_law_unlike, d_law_in_rows, d_law_stretch, d_law_reshaped, d_law_copy, d_law_own, d_law_shape_of, d_law_items, d_law_hole, d_law_is_form, d_law_right, d_law]
abbrev TX (K : Kx) (mg : Str → Option Value) (base : Heap) : Prop := Txt fa fn K mg base
theorem n_Shape_row {K} (c : SaysB fa fn K) : NoAttr K (He.ga K "Shape") "row" := He.noat_ok (c.fact 9 (f := .old (.noat "Shape" "row")) rfl)
theorem k_list_list {K} (c : SaysB fa fn K) : PySem.W.kitOne K (.type "list") (.type "list") = some true := of_decide_eq_true (c.fact 48 (f := .kitTT "list" "list" true) rfl)
theorem k_int_int {K} (c : SaysB fa fn K) : PySem.W.kitOne K (.type "int") (.type "int") = some true := of_decide_eq_true (c.fact 49 (f := .kitTT "int" "int" true) rfl)
theorem k_str_int {K} (c : SaysB fa fn K) : PySem.W.kitOne K (.type "str") (.type "int") = some false := of_decide_eq_true (c.fact 50 (f := .kitTT "str" "int" false) rfl)
theorem k_str_str {K} (c : SaysB fa fn K) : PySem.W.kitOne K (.type "str") (.type "str") = some true := of_decide_eq_true (c.fact 51 (f := .kitTT "str" "str" true) rfl)
theorem k_int_bool {K} (c : SaysB fa fn K) : PySem.W.kitOne K (.type "int") (.type "bool") = some false := of_decide_eq_true (c.fact 52 (f := .kitTT "int" "bool" false) rfl)
theorem x_Shape {K} (c : SaysB fa fn K) : ExC K (He.ga K "Shape") := exC_ok (c.fact 54 (f := .exc2 "Shape") rfl)
theorem x_NoRows {K} (c : SaysB fa fn K) : ExC K (He.ga K "NoRows") := exC_ok (c.fact 55 (f := .exc2 "NoRows") rfl)
theorem k_Shape_Shape {K} (c : SaysB fa fn K) : PySem.W.kitOne K (.ref (He.ga K "Shape")) (.ref (He.ga K "Shape")) = some true := of_decide_eq_true (c.fact 56 (f := .kit "Shape" "Shape" true) rfl)
theorem k_Shape_NoRows {K} (c : SaysB fa fn K) : PySem.W.kitOne K (.ref (He.ga K "Shape")) (.ref (He.ga K "NoRows")) = some false := of_decide_eq_true (c.fact 57 (f := .kit "Shape" "NoRows" false) rfl)
theorem k_Shape_BadForm {K} (c : SaysB fa fn K) : PySem.W.kitOne K (.ref (He.ga K "Shape")) (.ref (He.ga K "BadForm")) = some false := of_decide_eq_true (c.fact 58 (f := .kit "Shape" "BadForm" false) rfl)
theorem k_Shape_BadFilling {K} (c : SaysB fa fn K) : PySem.W.kitOne K (.ref (He.ga K "Shape")) (.ref (He.ga K "BadFilling")) = some false := of_decide_eq_true (c.fact 59 (f := .kit "Shape" "BadFilling" false) rfl)
theorem k_Shape_BadRow {K} (c : SaysB fa fn K) : PySem.W.kitOne K (.ref (He.ga K "Shape")) (.ref (He.ga K "BadRow")) = some false := of_decide_eq_true (c.fact 60 (f := .kit "Shape" "BadRow" false) rfl)
theorem k_Shape_BadWord {K} (c : SaysB fa fn K) : PySem.W.kitOne K (.ref (He.ga K "Shape")) (.ref (He.ga K "BadWord")) = some false := of_decide_eq_true (c.fact 61 (f := .kit "Shape" "BadWord" false) rfl)
theorem k_NoRows_Shape {K} (c : SaysB fa fn K) : PySem.W.kitOne K (.ref (He.ga K "NoRows")) (.ref (He.ga K "Shape")) = some false := of_decide_eq_true (c.fact 62 (f := .kit "NoRows" "Shape" false) rfl)
theorem k_NoRows_NoRows {K} (c : SaysB fa fn K) : PySem.W.kitOne K (.ref (He.ga K "NoRows")) (.ref (He.ga K "NoRows")) = some true := of_decide_eq_true (c.fact 63 (f := .kit "NoRows" "NoRows" true) rfl)
theorem k_NoRows_BadForm {K} (c : SaysB fa fn K) : PySem.W.kitOne K (.ref (He.ga K "NoRows")) (.ref (He.ga K "BadForm")) = some false := of_decide_eq_true (c.fact 64 (f := .kit "NoRows" "BadForm" false) rfl)
theorem k_NoRows_BadFilling {K} (c : SaysB fa fn K) : PySem.W.kitOne K (.ref (He.ga K "NoRows")) (.ref (He.ga K "BadFilling")) = some false := of_decide_eq_true (c.fact 65 (f := .kit "NoRows" "BadFilling" false) rfl)
theorem k_NoRows_BadRow {K} (c : SaysB fa fn K) : PySem.W.kitOne K (.ref (He.ga K "NoRows")) (.ref (He.ga K "BadRow")) = some false := of_decide_eq_true (c.fact 66 (f := .kit "NoRows" "BadRow" false) rfl)
theorem k_NoRows_BadWord {K} (c : SaysB fa fn K) : PySem.W.kitOne K (.ref (He.ga K "NoRows")) (.ref (He.ga K "BadWord")) = some false := of_decide_eq_true (c.fact 67 (f := .kit "NoRows" "BadWord" false) rfl)
theorem k_Shape_ValueError {K} (c : SaysB fa fn K) : PySem.W.kitOne K (.ref (He.ga K "Shape")) (.type "ValueError") = some true := of_decide_eq_true (c.fact 68 (f := .kitT "Shape" "ValueError" true) rfl)
theorem k_NoRows_ValueError {K} (c : SaysB fa fn K) : PySem.W.kitOne K (.ref (He.ga K "NoRows")) (.type "ValueError") = some true := of_decide_eq_true (c.fact 69 (f := .kitT "NoRows" "ValueError" true) rfl)
theorem e_Shape_KinError {K} (c : SaysB fa fn K) : PySem.W.exmOne K (.ref (He.ga K "Shape")) (.ref (He.ga K "KinError")) = some true := He.exm_ok (c.fact 70 (f := .old (.exm "Shape" "KinError" true)) rfl)
theorem e_NoRows_KinError {K} (c : SaysB fa fn K) : PySem.W.exmOne K (.ref (He.ga K "NoRows")) (.ref (He.ga K "KinError")) = some true := He.exm_ok (c.fact 71 (f := .old (.exm "NoRows" "KinError" true)) rfl)
end N42
set_option Elab.async false
set_option linter.all false
set_option maxRecDepth 100000
set_option maxHeartbeats 2000000
namespace N42
open PySem PySem.Spec PyProof.Rows L2 KR
/-! ### what each def of the law's text does -/
def stK (ns : List Int) (k l m : Int) : List (Key × D) := [(.inr "cells", .lst (ns.map .int)), (.inr "next", .int k), (.inr "left", .int l), (.inr "mixed", .int m)]
def PK (kvs : List (Key × D)) : Prop := ∃ ns k l m, 0 ≤ k ∧ kvs = stK ns k l m
/-- the state of the draws stands at a -/
abbrev DS (S : Store) (a : Addr) : Prop := DSt PK S a
/-- .. and was drawn from -/
abbrev Dr (a : Addr) (S S' : Store) : Prop := DrP PK a S S'
abbrev sL (r : List Str) : List D := r.map .str
abbrev iL (r : List Nat) : List D := r.map fun (n : Nat) => D.int (n : Int)
abbrev rowsD (s : List (List Str)) : List D := s.map fun r => .lst (sL r)
abbrev stD (s : List (List Str)) : D := .lst (rowsD s)
abbrev shp {α : Type} (s : List (List α)) : List Nat := s.map List.length
/-- a list of lists, whatever they are made of -/
def LL (S : Store) (d : D) (rs : List (List D)) : Prop := ∃ ds, asL S d = some ds ∧ Paired (fun x r => asL S x = some r) ds rs
/-- .. none of them the script -/
def LX (S : Store) (d : D) (rs : List (List D)) : Prop := ∃ ds, asX S d = some ds ∧ Paired (fun x r => asX S x = some r) ds rs
def cutL {α : Type} : List α → List Nat → List (List α)
  | _, [] => []
  | xs, n :: ns => xs.take n :: cutL (xs.drop n) ns
/-- p, new, has the rows rs, all new -/
def Fr (S S' : Store) (p : Addr) (rs : List (List D)) : Prop := ∃ as : List Addr, as.Nodup ∧ p ∉ as ∧ S p = none ∧ (∀ b ∈ as, S b = none) ∧ S' p = some (.lst (as.map .ref)) ∧ Paired (fun b r => S' b = some (.lst r)) as rs ∧ ∀ b, b ≠ p → b ∉ as → S' b = S b
/-- the first row in which shapes part -/
def bad (ss : List (List Nat)) : Option Nat := (List.range ((ss.map List.length).foldr max 0)).find? fun r => !(ss.all fun s => decide (s[r]? = (ss.headD [])[r]?))
/-- the words and holes: hs are the keys that had a hole -/
def opn : List (List Str) → List D → List (List Str) → List D
  | hs, w :: ws, k :: ks => match w with
    | .non => if k ∈ hs then .int (hs.idxOf k : Nat) :: opn hs ws ks else .int (hs.length : Nat) :: opn (hs ++ [k]) ws ks
    | w => w :: opn hs ws ks
  | _, _, _ => []
/-- the columns of stretches -/
def cols (ss : List (List (List Str))) (n : Nat) : List (List Str) := (List.range n).map fun k => ss.map fun s => s.flatten.getD k (Str.ofString "")
def same (c : List Str) : Bool := c.all fun w => decide (w = c.headD (Str.ofString ""))
def resI (ss : List (List (List Str))) : List D := match ss with
  | [] => []
  | s :: _ => opn [] ((cols ss s.flatten.length).map fun c => if same c then .str (c.headD (Str.ofString "")) else .non) (cols ss s.flatten.length)
def resR (ss : List (List (List Str))) : List (List D) := cutL (resI ss) (shp (ss.headD []))
abbrev sOk (w : Str) : Prop := PyData.strOk w = true
def Small (s : List (List Str)) : Prop := s.length ≤ 60 ∧ (∀ r ∈ s, r.length ≤ 30) ∧ ∀ r ∈ s, ∀ w ∈ r, sOk w
def bls (bs : List Bool) : List D := bs.map .bl
def isI : D → Bool
  | .int _ => true
  | _ => false
def flatI : D → Bool
  | .int _ => true
  | .str _ => true
  | _ => false
def okI : D → Bool
  | .int _ => true
  | .str x => PyData.strOk x
  | _ => false
/-- holes numbered as they come -/
def Nmb : Int → List D → Prop
  | _, [] => True
  | many, .int i :: r => 0 ≤ i ∧ i ≤ many ∧ Nmb (max many (i + 1)) r
  | many, .str _ :: r => Nmb many r
  | _, _ => False
/-- what is asked of the items of a form -/
structure Rgt (is : List D) (cs : List (List Str)) : Prop where
  len : is.length = cs.length
  nmb : Nmb 0 is
  word : ∀ (k : Nat) (c : List Str), cs[k]? = some c → same c = true → is[k]? = some (D.str (c.headD (Str.ofString "")))
  hole : ∀ (k : Nat) (c : List Str), cs[k]? = some c → same c = false → ∃ i, is[k]? = some (D.int i)
  eq : ∀ (k j : Nat) (c e : List Str) (i i' : Int), cs[k]? = some c → cs[j]? = some e → same c = false → is[k]? = some (D.int i) → is[j]? = some (D.int i') → (i = i' ↔ c = e)
def A_law_begin (K : Kx) : ASp := fun ds S Q E => ∃ ns, ds = [.scr ns] ∧ ∀ a S', S a = none → Dr a S S' → Q (.ref a) S'
def A_law_more (K : Kx) : ASp := fun ds S Q E => ∃ a ns k l m, ds = [.ref a] ∧ 0 ≤ k ∧ S a = some (.dK (stK ns k l m)) ∧ ∀ v : Int, Q (.int v) (sup S a (.dK (stK ns (k + 1) l m)))
def A_law_next (K : Kx) : ASp := fun ds S Q E => ∃ a n, ds = [.ref a, .int n] ∧ DS S a ∧ 0 < n ∧ n < 1073741824 ∧ ∀ r S', 0 ≤ r → r < n → Dr a S S' → Q (.int r) S'
def A_law_pick (K : Kx) : ASp := fun ds S Q E => ∃ a, DS S a ∧ ((∃ xs, ds = [.ref a, .lst xs] ∧ 0 < xs.length ∧ xs.length < 1000000 ∧ ∀ x S', x ∈ xs → Dr a S S' → Q x S') ∨ ∃ z, ds = [.ref a, .str z] ∧ 0 < z.length ∧ z.length < 1000000 ∧ sOk z ∧ ∀ c S', c < 1114112 → Dr a S S' → Q (.str ⟨#[c]⟩) S')
def A_law_shape (K : Kx) : ASp := fun ds S Q E => ∃ a, ds = [.ref a] ∧ DS S a ∧ ∀ (ns : List Nat) S', ns.length ≤ 60 → (∀ n ∈ ns, n ≤ 30) → Dr a S S' → Q (.lst (iL ns)) S'
def A_law_word (K : Kx) : ASp := fun ds S Q E => ∃ a, ds = [.ref a] ∧ DS S a ∧ ∀ w S', sOk w → Dr a S S' → Q (.str w) S'
def A_law_pool (K : Kx) : ASp := fun ds S Q E => ∃ a, ds = [.ref a] ∧ DS S a ∧ ∀ (ws : List Str) S', ws ≠ [] → ws.length ≤ 5 → (∀ w ∈ ws, sOk w) → Dr a S S' → Q (.lst (sL ws)) S'
def A_law_in_rows (K : Kx) : ASp := fun ds S Q E => ∃ xs ns, ds = [.lst xs, .lst (iL ns)] ∧ xs.length ≤ 10000 ∧ ns.length ≤ 60 ∧ (∀ n ∈ ns, n ≤ 30) ∧ Q (.lst ((cutL xs ns).map .lst)) S
def A_law_stretch (K : Kx) : ASp := fun ds S Q E => ∃ a ns ws, ds = [.ref a, .lst (iL ns), .lst (sL ws)] ∧ DS S a ∧ ws ≠ [] ∧ ws.length ≤ 5 ∧ (∀ w ∈ ws, sOk w) ∧ ns.length ≤ 60 ∧ (∀ n ∈ ns, n ≤ 30) ∧ ∀ rs S', shp rs = ns → Small rs → Dr a S S' → Q (stD rs) S'
def A_law_reshaped (K : Kx) : ASp := fun ds S Q E => ∃ (way place : Int) (rs : List (List Str)), ds = [.int way, .int place, stD rs] ∧ 0 ≤ place ∧ Small rs ∧ ∀ rs', Small rs' → Q (stD rs') S
def A_law_copy (K : Kx) : ASp := fun ds S Q E => ∃ d rs, ds = [d] ∧ LL S d rs ∧ Q (.lst (rs.map .lst)) S
/-- what form_of tells, and refuses -/
def formQ (K : Kx) (ss : List (List (List Str))) (S : Store) (Q : VQ) (E : EQ) : Prop := match ss with
  | [] => E (.ref (He.ga K.K "NoRows")) none S
  | ss => match bad (ss.map shp) with
    | some r => E (.ref (He.ga K.K "Shape")) (some ("row", .int (r : Int))) S
    | none => ∀ p S', Fr S S' p (resR ss) → Q (.ref p) S'
def A_form_of (K : Kx) : ASp := fun ds S Q E => ∃ ss, ds = [.lst (ss.map stD)] ∧ ss.length ≤ 100 ∧ (∀ s ∈ ss, Small s) ∧ formQ K ss S Q E
def A_need_shape (K : Kx) : ASp := fun ds S Q E => ∃ ss, ds = [.lst (ss.map stD)] ∧ ss ≠ [] ∧ ss.length ≤ 100 ∧ (∀ s ∈ ss, Small s) ∧ (match bad (ss.map shp) with
  | some r => E (.ref (He.ga K.K "Shape")) (some ("row", .int (r : Int))) S
  | none => Q .non S)
def A_in_rows (K : Kx) : ASp := fun ds S Q E => ∃ xs s, ds = [.lst xs, stD s] ∧ xs.length ≤ 10000 ∧ Small s ∧ ∀ p S', Fr S S' p (cutL xs (shp s)) → Q (.ref p) S'
def A_items_of (K : Kx) : ASp := fun ds S Q E => ∃ s, ds = [stD s] ∧ Small s ∧ Q (.lst (sL s.flatten)) S
def A_opened (K : Kx) : ASp := fun ds S Q E => ∃ ws ks, asL S (ds.headD .non) = some ws ∧ asL S (ds.getD 1 .non) = some (ks.map fun k => .tupz (sL k)) ∧ ds.length = 2 ∧ ws.length = ks.length ∧ ks.length ≤ 10000 ∧ (∀ w ∈ ws, w = .non ∨ ∃ x, w = .str x) ∧ Q (.lst (opn [] ws ks)) S
def answer (K : Kx) (ss : List (List (List Str))) (S : Store) (Q : VQ) : Prop := match ss with
  | [] => Q (.tup [.str "no", .lst (bls [false, true, false, false, false, false, true])]) S
  | ss => match bad (ss.map shp) with
    | some r => Q (.tup [.str "no", .lst (bls [true, false, false, false, false, false, true] ++ [.int (r : Int)])]) S
    | none => ∀ p S', Fr S S' p (resR ss) → Q (.tup [.str "told", .ref p]) S'
def A_law_asked (K : Kx) : ASp := fun ds S Q E => ∃ ss, ds = [.lst (ss.map stD)] ∧ ss.length ≤ 100 ∧ (∀ s ∈ ss, Small s) ∧ answer K ss S Q
def A_law_classes (K : Kx) : ASp := fun ds S Q E => ∃ fs, (ds = [.exc (He.ga K.K "Shape") fs] ∧ Q (.lst (bls [true, false, false, false, false, false, true])) S) ∨ (ds = [.exc (He.ga K.K "NoRows") fs] ∧ Q (.lst (bls [false, true, false, false, false, false, true])) S)
def A_law_unlike (K : Kx) : ASp := fun ds S Q E => ∃ ss : List (List Nat), ds = [.lst (ss.map fun s => .lst (iL s))] ∧ ss ≠ [] ∧ ss.length ≤ 100 ∧ (∀ s ∈ ss, s.length ≤ 60) ∧ (match bad ss with
  | some r => Q (.int (r : Int)) S
  | none => Q .non S)
def A_law_shape_of (K : Kx) : ASp := fun ds S Q E => ∃ d rs, ds = [d] ∧ LL S d rs ∧ Q (.lst (iL (shp rs))) S
def A_law_items (K : Kx) : ASp := fun ds S Q E => ∃ d rs, ds = [d] ∧ LL S d rs ∧ rs.flatten.length ≤ 10000 ∧ Q (.lst rs.flatten) S
def A_law_hole (K : Kx) : ASp := fun ds S Q E => ∃ d, ds = [d] ∧ flatI d = true ∧ Q (.bl (isI d)) S
def A_law_is_form (K : Kx) : ASp := fun ds S Q E => ∃ d rs, ds = [d, .lst (iL (shp rs))] ∧ LX S d rs ∧ rs.flatten.length ≤ 10000 ∧ (∀ r ∈ rs, True) ∧ Nmb 0 rs.flatten ∧ Q (.bl true) S
def A_law_right (K : Kx) : ASp := fun ds S Q E => ∃ d y rs ss, ds = [d, y] ∧ asL S y = some (ss.map stD) ∧ LX S d rs ∧ rs.flatten.length ≤ 10000 ∧ ss ≠ [] ∧ ss.length ≤ 100 ∧ (∀ s ∈ ss, Small s ∧ shp s = shp rs) ∧ Rgt rs.flatten (cols ss rs.flatten.length) ∧ Q (.bl true) S
def A_law_own (K : Kx) : ASp := fun ds S Q E => ∃ p as rs, ds = [.ref p] ∧ as.Nodup ∧ p ∉ as ∧ S p = some (.lst (as.map .ref)) ∧ Paired (fun b r => S b = some (.lst r)) as rs ∧ (∀ r ∈ rs, r.length ≤ 30 ∧ r.all okI = true) ∧ ∀ S', (∀ b, b ∉ as → S' b = S b) → Q (.bl true) S'
section
variable {K : Kx} {ds : List D} {S : Store} {Q : VQ} {E : EQ}
theorem l_law_begin (h : A_law_begin K ds S Q E) : ds.length = 1 := by obtain ⟨_, rfl, _⟩ := h; rfl
theorem l_law_more (h : A_law_more K ds S Q E) : ds.length = 1 := by obtain ⟨_, _, _, _, _, rfl, _⟩ := h; rfl
theorem l_law_next (h : A_law_next K ds S Q E) : ds.length = 2 := by obtain ⟨_, _, rfl, _⟩ := h; rfl
theorem l_law_pick (h : A_law_pick K ds S Q E) : ds.length = 2 := by obtain ⟨_, _, ⟨_, rfl, _⟩ | ⟨_, rfl, _⟩⟩ := h <;> rfl
theorem l_law_shape (h : A_law_shape K ds S Q E) : ds.length = 1 := by obtain ⟨_, rfl, _⟩ := h; rfl
theorem l_law_word (h : A_law_word K ds S Q E) : ds.length = 1 := by obtain ⟨_, rfl, _⟩ := h; rfl
theorem l_law_pool (h : A_law_pool K ds S Q E) : ds.length = 1 := by obtain ⟨_, rfl, _⟩ := h; rfl
theorem l_law_in_rows (h : A_law_in_rows K ds S Q E) : ds.length = 2 := by obtain ⟨_, _, rfl, _⟩ := h; rfl
theorem l_law_stretch (h : A_law_stretch K ds S Q E) : ds.length = 3 := by obtain ⟨_, _, _, rfl, _⟩ := h; rfl
theorem l_law_reshaped (h : A_law_reshaped K ds S Q E) : ds.length = 3 := by obtain ⟨_, _, _, rfl, _⟩ := h; rfl
theorem l_law_copy (h : A_law_copy K ds S Q E) : ds.length = 1 := by obtain ⟨_, _, rfl, _⟩ := h; rfl
theorem l_form_of (h : A_form_of K ds S Q E) : ds.length = 1 := by obtain ⟨_, rfl, _⟩ := h; rfl
theorem l_need_shape (h : A_need_shape K ds S Q E) : ds.length = 1 := by obtain ⟨_, rfl, _⟩ := h; rfl
theorem l_in_rows (h : A_in_rows K ds S Q E) : ds.length = 2 := by obtain ⟨_, _, rfl, _⟩ := h; rfl
theorem l_items_of (h : A_items_of K ds S Q E) : ds.length = 1 := by obtain ⟨_, rfl, _⟩ := h; rfl
theorem l_opened (h : A_opened K ds S Q E) : ds.length = 2 := by obtain ⟨_, _, _, _, h, _⟩ := h; exact h
theorem l_law_asked (h : A_law_asked K ds S Q E) : ds.length = 1 := by obtain ⟨_, rfl, _⟩ := h; rfl
theorem l_law_classes (h : A_law_classes K ds S Q E) : ds.length = 1 := by obtain ⟨_, ⟨rfl, _⟩ | ⟨rfl, _⟩⟩ := h <;> rfl
theorem l_law_unlike (h : A_law_unlike K ds S Q E) : ds.length = 1 := by obtain ⟨_, rfl, _⟩ := h; rfl
theorem l_law_shape_of (h : A_law_shape_of K ds S Q E) : ds.length = 1 := by obtain ⟨_, _, rfl, _⟩ := h; rfl
theorem l_law_items (h : A_law_items K ds S Q E) : ds.length = 1 := by obtain ⟨_, _, rfl, _⟩ := h; rfl
theorem l_law_hole (h : A_law_hole K ds S Q E) : ds.length = 1 := by obtain ⟨_, rfl, _⟩ := h; rfl
theorem l_law_is_form (h : A_law_is_form K ds S Q E) : ds.length = 2 := by obtain ⟨_, _, rfl, _⟩ := h; rfl
theorem l_law_right (h : A_law_right K ds S Q E) : ds.length = 2 := by obtain ⟨_, _, _, _, rfl, _⟩ := h; rfl
theorem l_law_own (h : A_law_own K ds S Q E) : ds.length = 1 := by obtain ⟨_, _, _, rfl, _⟩ := h; rfl
end
end N42
set_option Elab.async false
set_option linter.all false
set_option maxRecDepth 100000
set_option maxHeartbeats 4000000
namespace N42
open PySem PySem.Spec PyProof.Rows L2 KR
def w_law_begin (K : Kx) (Wx : XQ) : WS := wSeq (wSet 1 (wC (.int 11))) (wSeq (wFor (wiAny (wVar 0)) (.name 2) (wSet 1 (wOp oMod (wOp oAddB (wOp oMulB (wVar 1) (wC (.int 69621))) (wVar 2)) (wC (.int 2147483629))))) (wRetF (wDisp ((wC (.str "cells"), wCB oListB (waCons (wVar 0) (waNil))) :: (wC (.str "next"), wC (.int 0)) :: (wC (.str "left"), wC (.int 0)) :: (wC (.str "mixed"), wVar 1) :: []))))
def w_law_more (K : Kx) (Wx : XQ) : WS := wSeq (wSet 1 (wOp oIx (wVar 0) (wC (.str "next")))) (wSeq (wSub (wVar 0) (wC (.str "next")) (wOp oAddB (wVar 1) (wC (.int 1)))) (wSeq (wSet 2 (wOp oAddB (wOp oIx (wVar 0) (wC (.str "mixed"))) (wOp oMulB (wC (.int 104729)) (wVar 1)))) (wSeq (wIfS (wTest (wOp oLt (wVar 1) (wCB oLenB (waCons (wOp oIx (wVar 0) (wC (.str "cells"))) (waNil))))) (wSet 2 (wOp oIx (wOp oIx (wVar 0) (wC (.str "cells"))) (wVar 1))) (wNext)) (wSeq (wIfS (wTest (wOp oGe (wVar 2) (wOp oPow (wC (.int 10)) (wC (.int 18))))) (wRetF (wOp oSub (wVar 2) (wOp oPow (wC (.int 10)) (wC (.int 18))))) (wNext)) (wSeq (wSet 3 (wOp oMod (wOp oAddB (wOp oAddB (wOp oMulB (wVar 2) (wC (.int 48271))) (wOp oMulB (wC (.int 7919)) (wVar 1))) (wC (.int 11))) (wC (.int 2147483647)))) (wSeq (wSet 4 (wOp oMod (wOp oMulB (wVar 3) (wOp oAddB (wOp oAddB (wVar 3) (wOp oMulB (wC (.int 2)) (wVar 1))) (wC (.int 1)))) (wC (.int 2147483629)))) (wSeq (wSet 5 (wOp oMod (wOp oMulB (wVar 4) (wOp oAddB (wOp oAddB (wVar 4) (wVar 3)) (wC (.int 1)))) (wC (.int 2147483587)))) (wRetF (wOp oAddB (wOp oMulB (wOp oAddB (wOp oMulB (wVar 3) (wC (.int 2147483629))) (wVar 4)) (wC (.int 2147483587))) (wVar 5))))))))))
def w_law_next (K : Kx) (Wx : XQ) : WS := wSeq (wIfS (wTest (wOp (oEq false) (wOp oIx (wVar 0) (wC (.str "left"))) (wC (.int 0)))) (wSub (wVar 0) (wC (.str "left")) (wCall (A_law_more K) [] Wx (waCons (wVar 0) (waNil)))) (wNext)) (wSeq (wSet 2 (wOp oMod (wOp oIx (wVar 0) (wC (.str "left"))) (wVar 1))) (wSeq (wSub (wVar 0) (wC (.str "left")) (wOp oDiv (wOp oIx (wVar 0) (wC (.str "left"))) (wVar 1))) (wRetF (wVar 2))))
def w_law_pick (K : Kx) (Wx : XQ) : WS := wRetF (wOp oIx (wVar 1) (wCall (A_law_next K) [] Wx (waCons (wVar 0) (waCons (wCB oLenB (waCons (wVar 1) (waNil))) (waNil)))))
def w_law_shape (K : Kx) (Wx : XQ) : WS := wSeq (wSet 1 (wCall (A_law_next K) [] Wx (waCons (wVar 0) (waCons (wC (.int 16)) (waNil))))) (wSeq (wIfS (wTest (wOp (oEq false) (wVar 1) (wC (.int 0)))) (wRetF (wOp oMulB (wLstB (waCons (wC (.int 1)) (waNil))) (wC (.int 60)))) (wNext)) (wSeq (wIfS (wTest (wOp (oEq false) (wVar 1) (wC (.int 1)))) (wRetF (wLstB (waCons (wC (.int 30)) (waCons (wC (.int 0)) (waCons (wC (.int 30)) (waNil)))))) (wNext)) (wRetF (wEx fun m => wLc m (wiR1 (waCons (wCall (A_law_next K) [] Wx (waCons (wVar 0) (waCons (wC (.int 5)) (waNil)))) (waNil))) (.name 2) (wtYes) (wCall (A_law_next K) [] X0 (waCons (wVar 0) (waCons (wC (.int 5)) (waNil)))) [2]))))
def w_law_word (K : Kx) (Wx : XQ) : WS := wSeq (wSet 1 (wC (.str "abcdefghijklmnopqrstuvwxyzABCDEFGHIJKLMNOPQRSTUVWXYZ_"))) (wSeq (wSet 2 (wC (.str "0123456789"))) (wSeq (wSet 3 (wCall (A_law_next K) [] Wx (waCons (wVar 0) (waCons (wC (.int 6)) (waNil))))) (wSeq (wSet 4 (wOp oIx (wLstB (waCons (wC (.int 0)) (waCons (wC (.int 1)) (waCons (wC (.int 2)) (waCons (wC (.int 19)) (waNil)))))) (wCall (A_law_next K) [] Wx (waCons (wVar 0) (waCons (wC (.int 4)) (waNil)))))) (wSeq (wIfS (wTest (wOp (oEq false) (wVar 3) (wC (.int 0)))) (wRetF (wCall (A_law_pick K) [] Wx (waCons (wVar 0) (waCons (wBM "str" mSplit (wC (.str "and def do else end for if in not or return use while")) (waCons (wC (.str " ")) (waNil))) (waNil))))) (wNext)) (wSeq (wIfS (wTest (wOp (oEq false) (wVar 3) (wC (.int 1)))) (wRetF (wCall (A_law_pick K) [] Wx (waCons (wVar 0) (waCons (wC (.str "!\"#$&'()*+,-./:;<=>?@\x5b\\]^`{|}~")) (waNil))))) (wNext)) (wSeq (wIfS (wTest (wOp (oEq false) (wVar 3) (wC (.int 2)))) (wRetF (wBM "str" mJoin (wC (.str "")) (waCons (wEx fun m => wLc m (wiR1 (waCons (wOp oAddB (wVar 4) (wC (.int 1))) (waNil))) (.name 5) (wtYes) (wCall (A_law_pick K) [] X0 (waCons (wVar 0) (waCons (wVar 2) (waNil)))) [5]) (waNil)))) (wNext)) (wSeq (wIfS (wTest (wOp (oEq false) (wVar 3) (wC (.int 3)))) (wRetF (wOp oIx (wLstB (waCons (wC (.str "0")) (waCons (wC (.str "1")) (waCons (wC (.str "2")) (waNil))))) (wOp oMod (wVar 4) (wC (.int 3))))) (wNext)) (wRetF (wOp oAddB (wCall (A_law_pick K) [] Wx (waCons (wVar 0) (waCons (wVar 1) (waNil)))) (wBM "str" mJoin (wC (.str "")) (waCons (wEx fun m => wLc m (wiR1 (waCons (wVar 4) (waNil))) (.name 5) (wtYes) (wCall (A_law_pick K) [] X0 (waCons (wVar 0) (waCons (wOp oAddB (wVar 1) (wVar 2)) (waNil)))) [5]) (waNil))))))))))))
def w_law_pool (K : Kx) (Wx : XQ) : WS := wSeq (wIfS (wTest (wOp (oEq false) (wCall (A_law_next K) [] Wx (waCons (wVar 0) (waCons (wC (.int 8)) (waNil)))) (wC (.int 0)))) (wRetF (wLstB (waCons (wC (.str "1")) (waCons (wC (.str "11")) (waCons (wC (.str "2")) (waCons (wC (.str "12")) (waCons (wC (.str "21")) (waNil)))))))) (wNext)) (wRetF (wEx fun m => wLc m (wiR1 (waCons (wOp oAddB (wC (.int 1)) (wCall (A_law_next K) [] Wx (waCons (wVar 0) (waCons (wC (.int 5)) (waNil))))) (waNil))) (.name 1) (wtYes) (wCall (A_law_word K) [] X0 (waCons (wVar 0) (waNil))) [1]))
def w_need_shape (K : Kx) (Wx : XQ) : WS := wFor (wiR1 (waCons (wCB oMaxL (waCons (wEx fun m => wLc m (wiAny (wVar 0)) (.name 3) (wtYes) (wCB oLenB (waCons (wVar 3) (waNil))) [3]) (waNil))) (waNil))) (.name 1) (wSeq (wSet 2 (wEx fun m => wLc m (wiAny (wVar 0)) (.name 3) (wtYes) (wIf (wTest (wOp oLt (wVar 1) (wCB oLenB (waCons (wVar 3) (waNil))))) (wCB oLenB (waCons (wOp oIx (wVar 3) (wVar 1)) (waNil))) (wC .non)) [3])) (wIfS (wTest (wOp (oEq true) (wBM "list" mCount (wVar 2) (waCons (wOp oIx (wVar 2) (wC (.int 0))) (waNil))) (wCB oLenB (waCons (wVar 2) (waNil))))) (wRaiseI (He.ga K.K "Shape") "row" (waCons (wVar 1) (waNil)) Wx) (wNext)))
def w_in_rows (K : Kx) (Wx : XQ) : WS := wSeq (wSet 2 (wLstB (waNil))) (wSeq (wSet 3 (wC (.int 0))) (wSeq (wFor (wiAny (wVar 1)) (.name 4) (wSeq (wExpr (wBM "list" mAppend (wVar 2) (waCons (wSlB (wVar 0) (wPart (wVar 3)) (wPart (wOp oAddB (wVar 3) (wCB oLenB (waCons (wVar 4) (waNil)))))) (waNil)))) (wAug 3 (oI (fun _ _ => True) fun i j => .int (i + j)) (wCB oLenB (waCons (wVar 4) (waNil)))))) (wRetF (wVar 2))))
def w_items_of (K : Kx) (Wx : XQ) : WS := wSeq (wSet 1 (wLstB (waNil))) (wSeq (wFor (wiAny (wVar 0)) (.name 2) (wExpr (wBM "list" mExtend (wVar 1) (waCons (wVar 2) (waNil))))) (wRetF (wVar 1)))
def w_opened (K : Kx) (Wx : XQ) : WS := wSeq (wSet 2 (wNewD)) (wSeq (wSet 3 (wLstB (waNil))) (wSeq (wFor (wiZ (waCons (wVar 0) (waCons (wVar 1) (waNil)))) (.tup [.name 4, .name 5]) (wIfS (wTest (wOp (oIsN false) (wVar 4) (wC .non))) (wExpr (wBM "list" mAppend (wVar 3) (waCons (wSetdN (wVar 2) (wVar 5) (wCB oLenB (waCons (wVar 2) (waNil)))) (waNil)))) (wExpr (wBM "list" mAppend (wVar 3) (waCons (wVar 4) (waNil)))))) (wRetF (wVar 3))))
def w_form_of (K : Kx) (Wx : XQ) : WS := wSeq (wIfS (wTest (wOp (oEq false) (wCB oLenB (waCons (wVar 0) (waNil))) (wC (.int 0)))) (wRaise (He.ga K.K "NoRows") Wx) (wNext)) (wSeq (wExpr (wCall (A_need_shape K) [] Wx (waCons (wVar 0) (waNil)))) (wSeq (wSet 1 (wEx fun m => wLc m (wiAny (wVar 0)) (.name 7) (wtYes) (wCall (A_items_of K) [] X0 (waCons (wVar 7) (waNil))) [7])) (wSeq (wSet 2 (wLstB (waNil))) (wSeq (wSet 3 (wLstB (waNil))) (wSeq (wFor (wiE (waCons (wOp oIx (wVar 1) (wC (.int 0))) (waNil))) (.tup [.name 4, .name 5]) (wSeq (wSet 6 (wCB oTupleB (waCons (wEx fun m => wLc m (wiAny (wVar 1)) (.name 8) (wtYes) (wOp oIx (wVar 8) (wVar 4)) [8]) (waNil)))) (wSeq (wExpr (wBM "list" mAppend (wVar 2) (waCons (wVar 6) (waNil)))) (wExpr (wBM "list" mAppend (wVar 3) (waCons (wIf (wTest (wOp (oEq false) (wTCount (wVar 6) (wVar 5)) (wCB oLenB (waCons (wVar 6) (waNil))))) (wVar 5) (wC .non)) (waNil))))))) (wRetF (wCall (A_in_rows K) [] Wx (waCons (wCall (A_opened K) [] Wx (waCons (wVar 3) (waCons (wVar 2) (waNil)))) (waCons (wOp oIx (wVar 0) (wC (.int 0))) (waNil))))))))))
def w_law_classes (K : Kx) (Wx : XQ) : WS := wSeq (wSet 1 (wLstB (waCons (wCB (oIsiB K) (waCons (wVar 0) (waCons (wC (.ref (He.ga K.K "Shape"))) (waNil)))) (waCons (wCB (oIsiB K) (waCons (wVar 0) (waCons (wC (.ref (He.ga K.K "NoRows"))) (waNil)))) (waCons (wCB (oIsiB K) (waCons (wVar 0) (waCons (wC (.ref (He.ga K.K "BadForm"))) (waNil)))) (waNil)))))) (wSeq (wSet 1 (wOp oAddB (wVar 1) (wLstB (waCons (wCB (oIsiB K) (waCons (wVar 0) (waCons (wC (.ref (He.ga K.K "BadFilling"))) (waNil)))) (waCons (wCB (oIsiB K) (waCons (wVar 0) (waCons (wC (.ref (He.ga K.K "BadRow"))) (waNil)))) (waCons (wCB (oIsiB K) (waCons (wVar 0) (waCons (wC (.ref (He.ga K.K "BadWord"))) (waNil)))) (waNil))))))) (wRetF (wOp oAddB (wVar 1) (wLstB (waCons (wCB (oIsiB K) (waCons (wVar 0) (waCons (wC (.raw (.ty "ValueError"))) (waNil)))) (waNil))))))
def w_law_asked (K : Kx) (Wx : XQ) : WS := wSeq (wSet 1 (wC .non)) (wSeq (wSet 2 (wC .non)) (wSeq (wTry K (.ref (He.ga K.K "KinError")) 3 (fun Wx' => wSet 2 (wCall (A_form_of K) [] Wx' (waCons (wVar 0) (waNil)))) (wSet 1 (wVar 3)) Wx) (wSeq (wIfS (wTest (wOp (oIsN false) (wVar 1) (wC .non))) (wRetF (wTup (waCons (wC (.str "told")) (waCons (wVar 2) (waNil))))) (wNext)) (wSeq (wIfS (wTest (wCB (oIsiB K) (waCons (wVar 1) (waCons (wC (.ref (He.ga K.K "Shape"))) (waNil))))) (wRetF (wTup (waCons (wC (.str "no")) (waCons (wOp oAddB (wCall (A_law_classes K) [] Wx (waCons (wVar 1) (waNil))) (wLstB (waCons (wXGet K "row" (wVar 1)) (waNil)))) (waNil))))) (wNext)) (wRetF (wTup (waCons (wC (.str "no")) (waCons (wCall (A_law_classes K) [] Wx (waCons (wVar 1) (waNil))) (waNil)))))))))
def w_law_unlike (K : Kx) (Wx : XQ) : WS := wSeq (wFor (wiR1 (waCons (wCB oMaxL (waCons (wEx fun m => wLc m (wiAny (wVar 0)) (.name 3) (wtYes) (wCB oLenB (waCons (wVar 3) (waNil))) [3]) (waNil))) (waNil))) (.name 1) (wSeq (wSet 2 (wEx fun m => wLc m (wiAny (wVar 0)) (.name 3) (wtYes) (wIf (wTest (wOp oLt (wVar 1) (wCB oLenB (waCons (wVar 3) (waNil))))) (wOp oIx (wVar 3) (wVar 1)) (wC .non)) [3])) (wIfS (wTest (wOp (oEq true) (wBM "list" mCount (wVar 2) (waCons (wOp oIx (wVar 2) (wC (.int 0))) (waNil))) (wCB oLenB (waCons (wVar 2) (waNil))))) (wRetF (wVar 1)) (wNext)))) (wRetF (wC .non))
def w_law_in_rows (K : Kx) (Wx : XQ) : WS := wSeq (wSet 2 (wLstB (waNil))) (wSeq (wSet 3 (wC (.int 0))) (wSeq (wFor (wiAny (wVar 1)) (.name 4) (wSeq (wExpr (wBM "list" mAppend (wVar 2) (waCons (wSlB (wVar 0) (wPart (wVar 3)) (wPart (wOp oAddB (wVar 3) (wVar 4)))) (waNil)))) (wSet 3 (wOp oAddB (wVar 3) (wVar 4))))) (wRetF (wVar 2))))
def w_law_stretch (K : Kx) (Wx : XQ) : WS := wRetF (wCall (A_law_in_rows K) [] Wx (waCons (wEx fun m => wLc m (wiR1 (waCons (wCB oSum (waCons (wVar 1) (waNil))) (waNil))) (.name 3) (wtYes) (wCall (A_law_pick K) [] X0 (waCons (wVar 0) (waCons (wVar 2) (waNil)))) [3]) (waCons (wVar 1) (waNil))))
def w_law_reshaped (K : Kx) (Wx : XQ) : WS := wSeq (wSet 3 (wOp oMod (wVar 1) (wCB oMax2 (waCons (wC (.int 1)) (waCons (wCB oLenB (waCons (wVar 2) (waNil))) (waNil)))))) (wCut (wIfS (wtAnd (wTest (wOp (oEq false) (wVar 0) (wC (.int 0)))) (wTest (wOp oLt (wCB oLenB (waCons (wVar 2) (waNil))) (wC (.int 60))))) (wRetF (wOp oAddB (wOp oAddB (wSlB (wVar 2) wNoPart (wPart (wVar 3))) (wLstB (waCons (wLstB (waNil)) (waNil)))) (wSlB (wVar 2) (wPart (wVar 3)) wNoPart))) (wNext)) (wSeq (wIfS (wTest (wOp (oEq false) (wVar 2) (wLstB (waNil)))) (wRetF (wVar 2)) (wNext)) (wSeq (wSet 4 (wOp oIx (wVar 2) (wVar 3))) (wSeq (wSet 5 (wOp oMod (wOp oDiv (wVar 1) (wC (.int 61))) (wCB oMax2 (waCons (wC (.int 1)) (waCons (wCB oLenB (waCons (wVar 4) (waNil))) (waNil)))))) (wSeq (wIfS (wTest (wOp (oEq false) (wVar 0) (wC (.int 1)))) (wRetF (wOp oAddB (wSlB (wVar 2) wNoPart (wPart (wVar 3))) (wSlB (wVar 2) (wPart (wOp oAddB (wVar 3) (wC (.int 1)))) wNoPart))) (wNext)) (wCut (wIfS (wtAnd (wTest (wOp (oEq false) (wVar 0) (wC (.int 2)))) (wTest (wOp oLt (wCB oLenB (waCons (wVar 4) (waNil))) (wC (.int 30))))) (wRetF (wOp oAddB (wOp oAddB (wSlB (wVar 2) wNoPart (wPart (wVar 3))) (wLstB (waCons (wOp oAddB (wOp oAddB (wSlB (wVar 4) wNoPart (wPart (wVar 5))) (wLstB (waCons (wC (.str "x")) (waNil)))) (wSlB (wVar 4) (wPart (wVar 5)) wNoPart)) (waNil)))) (wSlB (wVar 2) (wPart (wOp oAddB (wVar 3) (wC (.int 1)))) wNoPart))) (wNext)) (wCut (wIfS (wtAnd (wTest (wOp (oEq false) (wVar 0) (wC (.int 4)))) (wtAnd (wTest (wOp oLt (wOp oAddB (wVar 3) (wC (.int 1))) (wCB oLenB (waCons (wVar 2) (waNil))))) (wTest (wOp oLt (wCB oLenB (waCons (wOp oIx (wVar 2) (wOp oAddB (wVar 3) (wC (.int 1)))) (waNil))) (wC (.int 30)))))) (wRetF (wOp oAddB (wOp oAddB (wSlB (wVar 2) wNoPart (wPart (wVar 3))) (wLstB (waCons (wSlB (wVar 4) wNoPart (wPart (wOp oSub (wCB oLenB (waCons (wVar 4) (waNil))) (wC (.int 1))))) (waCons (wOp oAddB (wSlB (wVar 4) (wPart (wOp oSub (wCB oLenB (waCons (wVar 4) (waNil))) (wC (.int 1)))) wNoPart) (wOp oIx (wVar 2) (wOp oAddB (wVar 3) (wC (.int 1))))) (waNil))))) (wSlB (wVar 2) (wPart (wOp oAddB (wVar 3) (wC (.int 2)))) wNoPart))) (wNext)) (wRetF (wOp oAddB (wOp oAddB (wSlB (wVar 2) wNoPart (wPart (wVar 3))) (wLstB (waCons (wOp oAddB (wSlB (wVar 4) wNoPart (wPart (wVar 5))) (wSlB (wVar 4) (wPart (wOp oAddB (wVar 5) (wC (.int 1)))) wNoPart)) (waNil)))) (wSlB (wVar 2) (wPart (wOp oAddB (wVar 3) (wC (.int 1)))) wNoPart))))))))))
def w_law_copy (K : Kx) (Wx : XQ) : WS := wRetF (wEx fun m => wLc m (wiAny (wVar 0)) (.name 1) (wtYes) (wCB oListB (waCons (wVar 1) (waNil))) [1])
def w_law_own (K : Kx) (Wx : XQ) : WS := wSeq (wSet 1 (wCall (A_law_copy K) [] Wx (waCons (wVar 0) (waNil)))) (wSeq (wFor (wiAny (wVar 0)) (.name 2) (wExpr (wBM "list" mAppend (wVar 2) (waCons (wC (.str "x")) (waNil))))) (wRetF (wOp (oEq false) (wVar 0) (wEx fun m => wLc m (wiAny (wVar 1)) (.name 2) (wtYes) (wOp oAddB (wVar 2) (wLstB (waCons (wC (.str "x")) (waNil)))) [2]))))
def w_law_shape_of (K : Kx) (Wx : XQ) : WS := wRetF (wEx fun m => wLc m (wiAny (wVar 0)) (.name 1) (wtYes) (wCB oLenB (waCons (wVar 1) (waNil))) [1])
def w_law_items (K : Kx) (Wx : XQ) : WS := wSeq (wSet 1 (wLstB (waNil))) (wSeq (wFor (wiAny (wVar 0)) (.name 2) (wSet 1 (wOp oAddB (wVar 1) (wCB oListB (waCons (wVar 2) (waNil)))))) (wRetF (wVar 1)))
def w_law_hole (K : Kx) (Wx : XQ) : WS := wRetF (wAndV (wCB (oIsiB K) (waCons (wVar 0) (waCons (wC (.raw (.ty "int"))) (waNil)))) (wNotV (wCB (oIsiB K) (waCons (wVar 0) (waCons (wC (.raw (.ty "bool"))) (waNil))))))
def w_law_is_form (K : Kx) (Wx : XQ) : WS := wSeq (wIfS (wtOr (wtNot (wTest (wCB (oIsiB K) (waCons (wVar 0) (waCons (wC (.raw (.ty "list"))) (waNil)))))) (wTest (wOp (oEq true) (wEx fun m => wLc m (wiAny (wVar 0)) (.name 4) (wtNot (wTest (wCB (oIsiB K) (waCons (wVar 4) (waCons (wC (.raw (.ty "list"))) (waNil)))))) (wVar 4) [4]) (wLstB (waNil))))) (wRetF (wC (.bl false))) (wNext)) (wSeq (wIfS (wTest (wOp (oEq true) (wEx fun m => wLc m (wiAny (wVar 0)) (.name 4) (wtYes) (wCB oLenB (waCons (wVar 4) (waNil))) [4]) (wVar 1))) (wRetF (wC (.bl false))) (wNext)) (wSeq (wSet 2 (wC (.int 0))) (wSeq (wFor (wiAny (wCall (A_law_items K) [] Wx (waCons (wVar 0) (waNil)))) (.name 3) (wIfS (wTest (wCall (A_law_hole K) [] Wx (waCons (wVar 3) (waNil)))) (wSeq (wIfS (wtOr (wTest (wOp oLt (wVar 3) (wC (.int 0)))) (wTest (wOp oGt (wVar 3) (wVar 2)))) (wRetF (wC (.bl false))) (wNext)) (wSet 2 (wCB oMax2 (waCons (wVar 2) (waCons (wOp oAddB (wVar 3) (wC (.int 1))) (waNil)))))) (wIfS (wtNot (wTest (wCB (oIsiB K) (waCons (wVar 3) (waCons (wC (.raw (.ty "str"))) (waNil)))))) (wRetF (wC (.bl false))) (wNext)))) (wRetF (wC (.bl true))))))
def w_law_right (K : Kx) (Wx : XQ) : WS := wSeq (wIfS (wtNot (wTest (wCall (A_law_is_form K) [] Wx (waCons (wVar 0) (waCons (wCall (A_law_shape_of K) [] Wx (waCons (wOp oIx (wVar 1) (wC (.int 0))) (waNil))) (waNil)))))) (wRetF (wC (.bl false))) (wNext)) (wSeq (wSet 2 (wCall (A_law_items K) [] Wx (waCons (wVar 0) (waNil)))) (wSeq (wSet 3 (wEx fun m => wLc m (wiAny (wVar 1)) (.name 8) (wtYes) (wCall (A_law_items K) [] X0 (waCons (wVar 8) (waNil))) [8])) (wSeq (wSet 4 (wEx fun m => wLc m (wiR1 (waCons (wCB oLenB (waCons (wVar 2) (waNil))) (waNil))) (.name 5) (wtYes) (wCB oTupleB (waCons (wEx fun m => wLc m (wiAny (wVar 3)) (.name 10) (wtYes) (wOp oIx (wVar 10) (wVar 5)) [10]) (waNil))) [5])) (wSeq (wFor (wiR1 (waCons (wCB oLenB (waCons (wVar 2) (waNil))) (waNil))) (.name 5) (wSeq (wSet 6 (wOp (oEq false) (wTCount (wOp oIx (wVar 4) (wVar 5)) (wOp oIx (wOp oIx (wVar 4) (wVar 5)) (wC (.int 0)))) (wCB oLenB (waCons (wVar 3) (waNil))))) (wSeq (wIfS (wtOr (wTest (wOp (oEq false) (wCall (A_law_hole K) [] Wx (waCons (wOp oIx (wVar 2) (wVar 5)) (waNil))) (wVar 6))) (wtAnd (wTest (wVar 6)) (wTest (wOp (oEq true) (wOp oIx (wVar 2) (wVar 5)) (wOp oIx (wOp oIx (wVar 4) (wVar 5)) (wC (.int 0))))))) (wRetF (wC (.bl false))) (wNext)) (wFor (wiR1 (waCons (wVar 5) (waNil))) (.name 7) (wSeq (wSet 9 (wOp (oEq false) (wOp oIx (wVar 4) (wVar 5)) (wOp oIx (wVar 4) (wVar 7)))) (wIfS (wtAnd (wtNot (wTest (wVar 6))) (wtAnd (wTest (wCall (A_law_hole K) [] Wx (waCons (wOp oIx (wVar 2) (wVar 7)) (waNil)))) (wTest (wOp (oEq true) (wOp (oEq false) (wOp oIx (wVar 2) (wVar 5)) (wOp oIx (wVar 2) (wVar 7))) (wVar 9))))) (wRetF (wC (.bl false))) (wNext))))))) (wRetF (wC (.bl true)))))))
def w_law (K : Kx) (Wx : XQ) : WS := wSeq (wSet 1 (wCall (A_law_begin K) [] Wx (waCons (wVar 0) (waNil)))) (wSeq (wSet 2 (wCall (A_law_next K) [] Wx (waCons (wVar 1) (waCons (wC (.int 6)) (waNil))))) (wSeq (wSet 3 (wCall (A_law_next K) [] Wx (waCons (wVar 1) (waCons (wC (.int 5)) (waNil))))) (wSeq (wSet 4 (wCall (A_law_next K) [] Wx (waCons (wVar 1) (waCons (wC (.int 3599)) (waNil))))) (wSeq (wSet 5 (wCall (A_law_next K) [] Wx (waCons (wVar 1) (waCons (wC (.int 1000)) (waNil))))) (wSeq (wSet 6 (wLstB (waCons (wCall (A_law_next K) [] Wx (waCons (wVar 1) (waCons (wC (.int 2)) (waNil)))) (waCons (wCall (A_law_next K) [] Wx (waCons (wVar 1) (waCons (wC (.int 5)) (waNil)))) (waCons (wCall (A_law_next K) [] Wx (waCons (wVar 1) (waCons (wC (.int 3599)) (waNil)))) (waNil)))))) (wSeq (wSet 7 (wCall (A_law_pick K) [] Wx (waCons (wVar 1) (waCons (wLstB (waCons (wC (.int 1)) (waCons (wC (.int 2)) (waCons (wC (.int 3)) (waCons (wC (.int 4)) (waCons (wC (.int 2)) (waCons (wC (.int 3)) (waCons (wC (.int 10)) (waCons (wC (.int 100)) (waNil)))))))))) (waNil))))) (wSeq (wSet 8 (wCall (A_law_shape K) [] Wx (waCons (wVar 1) (waNil)))) (wCut (wIfS (wTest (wOp (oEq false) (wVar 7) (wC (.int 100)))) (wSet 8 (wEx fun m => wLc m (wiAny (wSlB (wVar 8) wNoPart (wPart (wC (.int 3))))) (.name 16) (wtYes) (wOp oMod (wVar 16) (wC (.int 4))) [16])) (wNext)) (wSeq (wSet 9 (wCall (A_law_pool K) [] Wx (waCons (wVar 1) (waNil)))) (wSeq (wSet 10 (wEx fun m => wLc m (wiR1 (waCons (wVar 7) (waNil))) (.name 14) (wtYes) (wCall (A_law_stretch K) [] X0 (waCons (wVar 1) (waCons (wVar 8) (waCons (wVar 9) (waNil))))) [14])) (wCut (wIfS (wTest (wOp oLt (wVar 2) (wC (.int 2)))) (wSeq (wSub (wVar 10) (wOp oMod (wVar 5) (wVar 7)) (wCall (A_law_reshaped K) [] Wx (waCons (wVar 3) (waCons (wVar 4) (waCons (wOp oIx (wVar 10) (wOp oMod (wVar 5) (wVar 7))) (waNil)))))) (wIfS (wtAnd (wTest (wOp (oEq false) (wOp oIx (wVar 6) (wC (.int 0))) (wC (.int 0)))) (wTest (wOp oGt (wVar 7) (wC (.int 2))))) (wSub (wVar 10) (wOp oMod (wOp oAddB (wVar 5) (wC (.int 1))) (wVar 7)) (wCall (A_law_reshaped K) [] Wx (waCons (wOp oIx (wVar 6) (wC (.int 1))) (waCons (wOp oIx (wVar 6) (wC (.int 2))) (waCons (wOp oIx (wVar 10) (wOp oMod (wOp oAddB (wVar 5) (wC (.int 1))) (wVar 7))) (waNil)))))) (wNext))) (wNext)) (wCut (wIfS (wtAnd (wTest (wOp (oEq false) (wVar 2) (wC (.int 2)))) (wTest (wOp (oEq false) (wVar 3) (wC (.int 0))))) (wSet 10 (wLstB (waNil))) (wNext)) (wSeq (wSet 11 (wEx fun m => wLc m (wiAny (wVar 10)) (.name 15) (wtYes) (wCall (A_law_copy K) [] X0 (waCons (wVar 15) (waNil))) [15])) (wSeq (wSet 12 (wCall (A_law_asked K) [] Wx (waCons (wVar 11) (waNil)))) (wSeq (wIfS (wTest (wOp (oEq true) (wVar 11) (wVar 10))) (wRetF (wC (.bl false))) (wNext)) (wSeq (wIfS (wTest (wOp (oEq false) (wVar 10) (wLstB (waNil)))) (wRetF (wOp (oEq false) (wVar 12) (wTup (waCons (wC (.str "no")) (waCons (wLstB (waCons (wC (.bl false)) (waCons (wC (.bl true)) (waCons (wC (.bl false)) (waCons (wC (.bl false)) (waCons (wC (.bl false)) (waCons (wC (.bl false)) (waCons (wC (.bl true)) (waNil))))))))) (waNil)))))) (wNext)) (wSeq (wSet 13 (wCall (A_law_unlike K) [] Wx (waCons (wEx fun m => wLc m (wiAny (wVar 10)) (.name 15) (wtYes) (wCall (A_law_shape_of K) [] X0 (waCons (wVar 15) (waNil))) [15]) (waNil)))) (wSeq (wIfS (wTest (wOp (oIsN true) (wVar 13) (wC .non))) (wRetF (wOp (oEq false) (wVar 12) (wTup (waCons (wC (.str "no")) (waCons (wLstB (waCons (wC (.bl true)) (waCons (wC (.bl false)) (waCons (wC (.bl false)) (waCons (wC (.bl false)) (waCons (wC (.bl false)) (waCons (wC (.bl false)) (waCons (wC (.bl true)) (waCons (wVar 13) (waNil)))))))))) (waNil)))))) (wNext)) (wSeq (wIfS (wtOr (wTest (wOp (oEq true) (wOp oIx (wVar 12) (wC (.int 0))) (wC (.str "told")))) (wtNot (wTest (wCall (A_law_right K) [] Wx (waCons (wOp oIx (wVar 12) (wC (.int 1))) (waCons (wVar 10) (waNil))))))) (wRetF (wC (.bl false))) (wNext)) (wRetF (wAndV (wCall (A_law_own K) [] Wx (waCons (wOp oIx (wVar 12) (wC (.int 1))) (waNil))) (wOp (oEq false) (wVar 11) (wVar 10)))))))))))))))))))))))
section
variable {K : Kx} {mg : Str → Option Value} {base : Heap}
theorem b_law_begin (T : TX K mg base)  (cdv : Value) (A0 : Around) (outer : List Env) (s : Shared) (H : Hp) (E : XK) (hr : Room 0 (A0.deeper (envOfC "_law_begin" (defScope s_law_begin) s.heap.objs.size (He.fAd K.K ("_law_begin", none)) cdv))) (S0 : Store) (H0 : Hp) (Wx : XQ) (hx : Xc ⟨K, S0, H0⟩ (cxD K mg base ["_law_script", "_law_mixed", "_law_cell"] "_law_begin" (defScope s_law_begin) (He.fAd K.K ("_law_begin", none)) cdv A0 outer s H E) Wx) : ASs ⟨K, S0, H0⟩ (cxD K mg base ["_law_script", "_law_mixed", "_law_cell"] "_law_begin" (defScope s_law_begin) (He.fAd K.K ("_law_begin", none)) cdv A0 outer s H E) (defBody s_law_begin) (w_law_begin K Wx) := by
  have nd := sc_law_begin.nd
  unfold w_law_begin
  exact as_cons (as_set (j := 1) nd rfl (by first | exact Or.inl rfl | exact Or.inr rfl) (ae_int)) (as_cons (as_for (passes_of rfl) rfl rfl (ai_any rfl (ae_var (i := 0))) (pgp_name (i := 2) nd rfl (by first | exact Or.inl rfl | exact Or.inr rfl)) (as_one (as_set (j := 1) nd rfl (by first | exact Or.inl rfl | exact Or.inr rfl) (ae_op op_mod (sr_I fun _ _ _ _ => rp_int) (ae_op op_addAll sr_addB (ae_op op_mulAll sr_mulB (ae_var (i := 1)) (ae_int)) (ae_var (i := 2))) (ae_int))))) (as_one (as_retF (ae_disp (aps_cons (ae_str) (ae_callTy call_list_of sc_listB rfl (T.free 0) PyProof.Rows.Boot.«list» (aa_cons (ae_var (i := 0)) (aa_nil))) (aps_cons (ae_str) (ae_int) (aps_cons (ae_str) (ae_int) (aps_cons (ae_str) (ae_var (i := 1)) (aps_nil)))))))))
theorem b_law_more (T : TX K mg base)  (cdv : Value) (A0 : Around) (outer : List Env) (s : Shared) (H : Hp) (E : XK) (hr : Room 0 (A0.deeper (envOfC "_law_more" (defScope s_law_more) s.heap.objs.size (He.fAd K.K ("_law_more", none)) cdv))) (S0 : Store) (H0 : Hp) (Wx : XQ) (hx : Xc ⟨K, S0, H0⟩ (cxD K mg base ["_law_state", "_law_k", "_law_cell", "_law_one", "_law_two", "_law_three"] "_law_more" (defScope s_law_more) (He.fAd K.K ("_law_more", none)) cdv A0 outer s H E) Wx) : ASs ⟨K, S0, H0⟩ (cxD K mg base ["_law_state", "_law_k", "_law_cell", "_law_one", "_law_two", "_law_three"] "_law_more" (defScope s_law_more) (He.fAd K.K ("_law_more", none)) cdv A0 outer s H E) (defBody s_law_more) (w_law_more K Wx) := by
  have nd := sc_law_more.nd
  unfold w_law_more
  exact as_cons (as_set (j := 1) nd rfl (by first | exact Or.inl rfl | exact Or.inr rfl) (ae_ix rfl hr.u1 (ae_var (i := 0)) (ae_str))) (as_cons (as_sub hr.u1 (ae_var (i := 0)) (ae_str) (ae_op op_addAll sr_addB (ae_var (i := 1)) (ae_int))) (as_cons (as_set (j := 2) nd rfl (by first | exact Or.inl rfl | exact Or.inr rfl) (ae_op op_addAll sr_addB (ae_ix rfl hr.u1 (ae_var (i := 0)) (ae_str)) (ae_op op_mulAll sr_mulB (ae_int) (ae_var (i := 1))))) (as_cons (as_if (at_cmp op_ltA sr_cmp (ae_var (i := 1)) (ae_callB call_lenB sc_lenB rfl (T.free 1) PyProof.Rows.Boot.«len» (aa_cons (ae_ix rfl hr.u1 (ae_var (i := 0)) (ae_str)) (aa_nil))) rfl) (as_one (as_set (j := 2) nd rfl (by first | exact Or.inl rfl | exact Or.inr rfl) (ae_ix rfl hr.u1 (ae_ix rfl hr.u1 (ae_var (i := 0)) (ae_str)) (ae_var (i := 1))))) (as_nil)) (as_cons (as_if (at_cmp op_geA sr_cmp (ae_var (i := 2)) (ae_op op_pow (sr_I fun _ _ _ _ => rp_int) (ae_int) (ae_int)) rfl) (as_one (as_retF (ae_op op_sub (sr_I0 fun _ _ _ _ => rp_int) (ae_var (i := 2)) (ae_op op_pow (sr_I fun _ _ _ _ => rp_int) (ae_int) (ae_int))))) (as_nil)) (as_cons (as_set (j := 3) nd rfl (by first | exact Or.inl rfl | exact Or.inr rfl) (ae_op op_mod (sr_I fun _ _ _ _ => rp_int) (ae_op op_addAll sr_addB (ae_op op_addAll sr_addB (ae_op op_mulAll sr_mulB (ae_var (i := 2)) (ae_int)) (ae_op op_mulAll sr_mulB (ae_int) (ae_var (i := 1)))) (ae_int)) (ae_int))) (as_cons (as_set (j := 4) nd rfl (by first | exact Or.inl rfl | exact Or.inr rfl) (ae_op op_mod (sr_I fun _ _ _ _ => rp_int) (ae_op op_mulAll sr_mulB (ae_var (i := 3)) (ae_op op_addAll sr_addB (ae_op op_addAll sr_addB (ae_var (i := 3)) (ae_op op_mulAll sr_mulB (ae_int) (ae_var (i := 1)))) (ae_int))) (ae_int))) (as_cons (as_set (j := 5) nd rfl (by first | exact Or.inl rfl | exact Or.inr rfl) (ae_op op_mod (sr_I fun _ _ _ _ => rp_int) (ae_op op_mulAll sr_mulB (ae_var (i := 4)) (ae_op op_addAll sr_addB (ae_op op_addAll sr_addB (ae_var (i := 4)) (ae_var (i := 3))) (ae_int))) (ae_int))) (as_one (as_retF (ae_op op_addAll sr_addB (ae_op op_mulAll sr_mulB (ae_op op_addAll sr_addB (ae_op op_mulAll sr_mulB (ae_var (i := 3)) (ae_int)) (ae_var (i := 4))) (ae_int)) (ae_var (i := 5))))))))))))
theorem b_law_next (T : TX K mg base) (O_law_more : OkF K mg base 1 ("_law_more", none) ["_law_state"] [] (A_law_more K)) (cdv : Value) (A0 : Around) (outer : List Env) (s : Shared) (H : Hp) (E : XK) (hr : Room 1 (A0.deeper (envOfC "_law_next" (defScope s_law_next) s.heap.objs.size (He.fAd K.K ("_law_next", none)) cdv))) (S0 : Store) (H0 : Hp) (Wx : XQ) (hx : Xc ⟨K, S0, H0⟩ (cxD K mg base ["_law_state", "_law_many", "_law_found"] "_law_next" (defScope s_law_next) (He.fAd K.K ("_law_next", none)) cdv A0 outer s H E) Wx) : ASs ⟨K, S0, H0⟩ (cxD K mg base ["_law_state", "_law_many", "_law_found"] "_law_next" (defScope s_law_next) (He.fAd K.K ("_law_next", none)) cdv A0 outer s H E) (defBody s_law_next) (w_law_next K Wx) := by
  have nd := sc_law_next.nd
  unfold w_law_next
  exact as_cons (as_if (at_cmp (op_eqA hr.units) sr_eq (ae_ix rfl hr.u1 (ae_var (i := 0)) (ae_str)) (ae_int) rfl) (as_one (as_sub hr.u1 (ae_var (i := 0)) (ae_str) (ae_callF O_law_more rfl (hr.mono (by decide)) rfl (T.glo 2) hx (aa_cons (ae_var (i := 0)) (aa_nil))))) (as_nil)) (as_cons (as_set (j := 2) nd rfl (by first | exact Or.inl rfl | exact Or.inr rfl) (ae_op op_mod (sr_I fun _ _ _ _ => rp_int) (ae_ix rfl hr.u1 (ae_var (i := 0)) (ae_str)) (ae_var (i := 1)))) (as_cons (as_sub hr.u1 (ae_var (i := 0)) (ae_str) (ae_op op_fdiv (sr_I fun _ _ _ _ => rp_int) (ae_ix rfl hr.u1 (ae_var (i := 0)) (ae_str)) (ae_var (i := 1)))) (as_one (as_retF (ae_var (i := 2))))))
theorem b_law_pick (T : TX K mg base) (O_law_next : OkF K mg base 2 ("_law_next", none) ["_law_state", "_law_many"] [] (A_law_next K)) (cdv : Value) (A0 : Around) (outer : List Env) (s : Shared) (H : Hp) (E : XK) (hr : Room 2 (A0.deeper (envOfC "_law_pick" (defScope s_law_pick) s.heap.objs.size (He.fAd K.K ("_law_pick", none)) cdv))) (S0 : Store) (H0 : Hp) (Wx : XQ) (hx : Xc ⟨K, S0, H0⟩ (cxD K mg base ["_law_state", "_law_some"] "_law_pick" (defScope s_law_pick) (He.fAd K.K ("_law_pick", none)) cdv A0 outer s H E) Wx) : ASs ⟨K, S0, H0⟩ (cxD K mg base ["_law_state", "_law_some"] "_law_pick" (defScope s_law_pick) (He.fAd K.K ("_law_pick", none)) cdv A0 outer s H E) (defBody s_law_pick) (w_law_pick K Wx) := by
  have nd := sc_law_pick.nd
  unfold w_law_pick
  exact as_one (as_retF (ae_ix rfl hr.u1 (ae_var (i := 1)) (ae_callF O_law_next rfl (hr.mono (by decide)) rfl (T.glo 3) hx (aa_cons (ae_var (i := 0)) (aa_cons (ae_callB call_lenB sc_lenB rfl (T.free 1) PyProof.Rows.Boot.«len» (aa_cons (ae_var (i := 1)) (aa_nil))) (aa_nil))))))
theorem b_law_shape (T : TX K mg base) (O_law_next : OkF K mg base 2 ("_law_next", none) ["_law_state", "_law_many"] [] (A_law_next K)) (cdv : Value) (A0 : Around) (outer : List Env) (s : Shared) (H : Hp) (E : XK) (hr : Room 2 (A0.deeper (envOfC "_law_shape" (defScope s_law_shape) s.heap.objs.size (He.fAd K.K ("_law_shape", none)) cdv))) (S0 : Store) (H0 : Hp) (Wx : XQ) (hx : Xc ⟨K, S0, H0⟩ (cxD K mg base ["_law_state", "_law_way", "_law_k"] "_law_shape" (defScope s_law_shape) (He.fAd K.K ("_law_shape", none)) cdv A0 outer s H E) Wx) : ASs ⟨K, S0, H0⟩ (cxD K mg base ["_law_state", "_law_way", "_law_k"] "_law_shape" (defScope s_law_shape) (He.fAd K.K ("_law_shape", none)) cdv A0 outer s H E) (defBody s_law_shape) (w_law_shape K Wx) := by
  have nd := sc_law_shape.nd
  unfold w_law_shape
  exact as_cons (as_set (j := 1) nd rfl (by first | exact Or.inl rfl | exact Or.inr rfl) (ae_callF O_law_next rfl (hr.mono (by decide)) rfl (T.glo 3) hx (aa_cons (ae_var (i := 0)) (aa_cons (ae_int) (aa_nil))))) (as_cons (as_if (at_cmp (op_eqA hr.units) sr_eq (ae_var (i := 1)) (ae_int) rfl) (as_one (as_retF (ae_op op_mulAll sr_mulB (ae_lstB (aa_cons (ae_int) (aa_nil))) (ae_int)))) (as_nil)) (as_cons (as_if (at_cmp (op_eqA hr.units) sr_eq (ae_var (i := 1)) (ae_int) rfl) (as_one (as_retF (ae_lstB (aa_cons (ae_int) (aa_cons (ae_int) (aa_cons (ae_int) (aa_nil))))))) (as_nil)) (as_one (as_retF (ae_ex fun m => ae_lc (own := [("_law_k", 2)]) rfl nd rfl (ai_range1 rfl (T.free 4) (aa_cons (ae_callF O_law_next rfl (hr.mono (by decide)) rfl (T.glo 3) hx (aa_cons (ae_var (i := 0)) (aa_cons (ae_int) (aa_nil)))) (aa_nil))) (blk_of (by kernel_rfl)) (by decide) (fun _ _ _ _ _ => pgp_name (i := 2) nd rfl (by first | exact Or.inl rfl | exact Or.inr rfl)) (fun _ _ _ _ _ => ats_nil) (fun _ _ _ _ _ => ae_callF O_law_next rfl (hr.mono (by decide)) rfl (T.glo 3) xc0 (aa_cons (ae_var (i := 0)) (aa_cons (ae_int) (aa_nil)))))))))
theorem b_law_word (T : TX K mg base) (O_law_next : OkF K mg base 2 ("_law_next", none) ["_law_state", "_law_many"] [] (A_law_next K)) (O_law_pick : OkF K mg base 3 ("_law_pick", none) ["_law_state", "_law_some"] [] (A_law_pick K)) (cdv : Value) (A0 : Around) (outer : List Env) (s : Shared) (H : Hp) (E : XK) (hr : Room 3 (A0.deeper (envOfC "_law_word" (defScope s_law_word) s.heap.objs.size (He.fAd K.K ("_law_word", none)) cdv))) (S0 : Store) (H0 : Hp) (Wx : XQ) (hx : Xc ⟨K, S0, H0⟩ (cxD K mg base ["_law_state", "_law_letters", "_law_figures", "_law_sort", "_law_many", "_law_k"] "_law_word" (defScope s_law_word) (He.fAd K.K ("_law_word", none)) cdv A0 outer s H E) Wx) : ASs ⟨K, S0, H0⟩ (cxD K mg base ["_law_state", "_law_letters", "_law_figures", "_law_sort", "_law_many", "_law_k"] "_law_word" (defScope s_law_word) (He.fAd K.K ("_law_word", none)) cdv A0 outer s H E) (defBody s_law_word) (w_law_word K Wx) := by
  have nd := sc_law_word.nd
  unfold w_law_word
  exact as_cons (as_set (j := 1) nd rfl (by first | exact Or.inl rfl | exact Or.inr rfl) (ae_str)) (as_cons (as_set (j := 2) nd rfl (by first | exact Or.inl rfl | exact Or.inr rfl) (ae_str)) (as_cons (as_set (j := 3) nd rfl (by first | exact Or.inl rfl | exact Or.inr rfl) (ae_callF O_law_next rfl (hr.mono (by decide)) rfl (T.glo 3) hx (aa_cons (ae_var (i := 0)) (aa_cons (ae_int) (aa_nil))))) (as_cons (as_set (j := 4) nd rfl (by first | exact Or.inl rfl | exact Or.inr rfl) (ae_ix rfl hr.u1 (ae_lstB (aa_cons (ae_int) (aa_cons (ae_int) (aa_cons (ae_int) (aa_cons (ae_int) (aa_nil)))))) (ae_callF O_law_next rfl (hr.mono (by decide)) rfl (T.glo 3) hx (aa_cons (ae_var (i := 0)) (aa_cons (ae_int) (aa_nil)))))) (as_cons (as_if (at_cmp (op_eqA hr.units) sr_eq (ae_var (i := 3)) (ae_int) rfl) (as_one (as_retF (ae_callF O_law_pick rfl (hr.mono (by decide)) rfl (T.glo 5) hx (aa_cons (ae_var (i := 0)) (aa_cons (ae_bm (name := "split") PySem.F.plainAttrs_str PySem.F.slot_str_split PySem.F.type_str_split mt_split sm_split rfl (ae_str) (aa_cons (ae_str) (aa_nil))) (aa_nil)))))) (as_nil)) (as_cons (as_if (at_cmp (op_eqA hr.units) sr_eq (ae_var (i := 3)) (ae_int) rfl) (as_one (as_retF (ae_callF O_law_pick rfl (hr.mono (by decide)) rfl (T.glo 5) hx (aa_cons (ae_var (i := 0)) (aa_cons (ae_str) (aa_nil)))))) (as_nil)) (as_cons (as_if (at_cmp (op_eqA hr.units) sr_eq (ae_var (i := 3)) (ae_int) rfl) (as_one (as_retF (ae_bm (name := "join") PySem.F.plainAttrs_str PySem.F.slot_str_join PySem.F.type_str_join mt_join sm_join rfl (ae_str) (aa_cons (ae_ex fun m => ae_lc (own := [("_law_k", 5)]) rfl nd rfl (ai_range1 rfl (T.free 4) (aa_cons (ae_op op_addAll sr_addB (ae_var (i := 4)) (ae_int)) (aa_nil))) (blk_of (by kernel_rfl)) (by decide) (fun _ _ _ _ _ => pgp_name (i := 5) nd rfl (by first | exact Or.inl rfl | exact Or.inr rfl)) (fun _ _ _ _ _ => ats_nil) (fun _ _ _ _ _ => ae_callF O_law_pick rfl (hr.mono (by decide)) rfl (T.glo 5) xc0 (aa_cons (ae_var (i := 0)) (aa_cons (ae_var (i := 2)) (aa_nil))))) (aa_nil))))) (as_nil)) (as_cons (as_if (at_cmp (op_eqA hr.units) sr_eq (ae_var (i := 3)) (ae_int) rfl) (as_one (as_retF (ae_ix rfl hr.u1 (ae_lstB (aa_cons (ae_str) (aa_cons (ae_str) (aa_cons (ae_str) (aa_nil))))) (ae_op op_mod (sr_I fun _ _ _ _ => rp_int) (ae_var (i := 4)) (ae_int))))) (as_nil)) (as_one (as_retF (ae_op op_addAll sr_addB (ae_callF O_law_pick rfl (hr.mono (by decide)) rfl (T.glo 5) hx (aa_cons (ae_var (i := 0)) (aa_cons (ae_var (i := 1)) (aa_nil)))) (ae_bm (name := "join") PySem.F.plainAttrs_str PySem.F.slot_str_join PySem.F.type_str_join mt_join sm_join rfl (ae_str) (aa_cons (ae_ex fun m => ae_lc (own := [("_law_k", 5)]) rfl nd rfl (ai_range1 rfl (T.free 4) (aa_cons (ae_var (i := 4)) (aa_nil))) (blk_of (by kernel_rfl)) (by decide) (fun _ _ _ _ _ => pgp_name (i := 5) nd rfl (by first | exact Or.inl rfl | exact Or.inr rfl)) (fun _ _ _ _ _ => ats_nil) (fun _ _ _ _ _ => ae_callF O_law_pick rfl (hr.mono (by decide)) rfl (T.glo 5) xc0 (aa_cons (ae_var (i := 0)) (aa_cons (ae_op op_addAll sr_addB (ae_var (i := 1)) (ae_var (i := 2))) (aa_nil))))) (aa_nil)))))))))))))
theorem b_law_pool (T : TX K mg base) (O_law_next : OkF K mg base 2 ("_law_next", none) ["_law_state", "_law_many"] [] (A_law_next K)) (O_law_word : OkF K mg base 4 ("_law_word", none) ["_law_state"] [] (A_law_word K)) (cdv : Value) (A0 : Around) (outer : List Env) (s : Shared) (H : Hp) (E : XK) (hr : Room 4 (A0.deeper (envOfC "_law_pool" (defScope s_law_pool) s.heap.objs.size (He.fAd K.K ("_law_pool", none)) cdv))) (S0 : Store) (H0 : Hp) (Wx : XQ) (hx : Xc ⟨K, S0, H0⟩ (cxD K mg base ["_law_state", "_law_k"] "_law_pool" (defScope s_law_pool) (He.fAd K.K ("_law_pool", none)) cdv A0 outer s H E) Wx) : ASs ⟨K, S0, H0⟩ (cxD K mg base ["_law_state", "_law_k"] "_law_pool" (defScope s_law_pool) (He.fAd K.K ("_law_pool", none)) cdv A0 outer s H E) (defBody s_law_pool) (w_law_pool K Wx) := by
  have nd := sc_law_pool.nd
  unfold w_law_pool
  exact as_cons (as_if (at_cmp (op_eqA hr.units) sr_eq (ae_callF O_law_next rfl (hr.mono (by decide)) rfl (T.glo 3) hx (aa_cons (ae_var (i := 0)) (aa_cons (ae_int) (aa_nil)))) (ae_int) rfl) (as_one (as_retF (ae_lstB (aa_cons (ae_str) (aa_cons (ae_str) (aa_cons (ae_str) (aa_cons (ae_str) (aa_cons (ae_str) (aa_nil))))))))) (as_nil)) (as_one (as_retF (ae_ex fun m => ae_lc (own := [("_law_k", 1)]) rfl nd rfl (ai_range1 rfl (T.free 4) (aa_cons (ae_op op_addAll sr_addB (ae_int) (ae_callF O_law_next rfl (hr.mono (by decide)) rfl (T.glo 3) hx (aa_cons (ae_var (i := 0)) (aa_cons (ae_int) (aa_nil))))) (aa_nil))) (blk_of (by kernel_rfl)) (by decide) (fun _ _ _ _ _ => pgp_name (i := 1) nd rfl (by first | exact Or.inl rfl | exact Or.inr rfl)) (fun _ _ _ _ _ => ats_nil) (fun _ _ _ _ _ => ae_callF O_law_word rfl (hr.mono (by decide)) rfl (T.glo 6) xc0 (aa_cons (ae_var (i := 0)) (aa_nil))))))
theorem b_need_shape (T : TX K mg base) (O_Shape_init : OkI K mg base 1 ("Shape", some "__init__") "row") (cdv : Value) (A0 : Around) (outer : List Env) (s : Shared) (H : Hp) (E : XK) (hr : Room 2 (A0.deeper (envOfC "need_shape" (defScope s_need_shape) s.heap.objs.size (He.fAd K.K ("need_shape", none)) cdv))) (S0 : Store) (H0 : Hp) (Wx : XQ) (hx : Xc ⟨K, S0, H0⟩ (cxD K mg base ["forms", "row", "sizes", "form"] "need_shape" (defScope s_need_shape) (He.fAd K.K ("need_shape", none)) cdv A0 outer s H E) Wx) : ASs ⟨K, S0, H0⟩ (cxD K mg base ["forms", "row", "sizes", "form"] "need_shape" (defScope s_need_shape) (He.fAd K.K ("need_shape", none)) cdv A0 outer s H E) (defBody s_need_shape) (w_need_shape K Wx) := by
  have nd := sc_need_shape.nd
  unfold w_need_shape
  exact as_one (as_for (passes_of rfl) rfl rfl (ai_range1 rfl (T.free 4) (aa_cons (ae_callB (cr_max rfl) sc_maxL rfl (T.free 7) PyProof.Rows.Boot.«max» (aa_cons (ae_ex fun m => ae_lc (own := [("form", 3)]) rfl nd rfl (ai_any rfl (ae_var (i := 0))) (blk_of (by kernel_rfl)) (by decide) (fun _ _ _ _ _ => pgp_name (i := 3) nd rfl (by first | exact Or.inl rfl | exact Or.inr rfl)) (fun _ _ _ _ _ => ats_nil) (fun _ _ _ _ _ => ae_callB call_lenB sc_lenB rfl (T.free 1) PyProof.Rows.Boot.«len» (aa_cons (ae_var (i := 3)) (aa_nil)))) (aa_nil))) (aa_nil))) (pgp_name (i := 1) nd rfl (by first | exact Or.inl rfl | exact Or.inr rfl)) (as_cons (as_setLc (j := 2) (own := [("form", 3)]) rfl nd rfl rfl rfl rfl rfl rfl (ai_any rfl (ae_var (i := 0))) (blk_of (by kernel_rfl)) (by decide) (fun _ => rfl) (fun _ _ _ _ _ => pgp_name (i := 3) nd rfl (by first | exact Or.inl rfl | exact Or.inr rfl)) (fun _ _ _ _ _ => ats_nil) (fun _ _ _ _ _ => ae_if (at_cmp op_ltA sr_cmp (ae_var (i := 1)) (ae_callB call_lenB sc_lenB rfl (T.free 1) PyProof.Rows.Boot.«len» (aa_cons (ae_var (i := 3)) (aa_nil))) rfl) (ae_callB call_lenB sc_lenB rfl (T.free 1) PyProof.Rows.Boot.«len» (aa_cons (ae_ix rfl hr.u1 (ae_var (i := 3)) (ae_var (i := 1))) (aa_nil))) (ae_non))) (as_one (as_if (at_cmp (op_neA hr.units) sr_eq (ae_bm (name := "count") PySem.F.plainAttrs_list PySem.F.slot_list_count PySem.F.type_list_count mt_cntF sm_count rfl (ae_var (i := 2)) (aa_cons (ae_ix rfl hr.u1 (ae_var (i := 2)) (ae_int)) (aa_nil))) (ae_callB call_lenB sc_lenB rfl (T.free 1) PyProof.Rows.Boot.«len» (aa_cons (ae_var (i := 2)) (aa_nil))) rfl) (as_one (as_raiseF (f := "row") rfl (T.oex 8) (T.noat 9) O_Shape_init rfl (hr.mono (by decide)) rfl (T.glo 10) (aa_cons (ae_var (i := 1)) (aa_nil)) hx)) (as_nil)))))
theorem b_in_rows (T : TX K mg base)  (cdv : Value) (A0 : Around) (outer : List Env) (s : Shared) (H : Hp) (E : XK) (hr : Room 0 (A0.deeper (envOfC "in_rows" (defScope s_in_rows) s.heap.objs.size (He.fAd K.K ("in_rows", none)) cdv))) (S0 : Store) (H0 : Hp) (Wx : XQ) (hx : Xc ⟨K, S0, H0⟩ (cxD K mg base ["items", "like", "found", "at", "row"] "in_rows" (defScope s_in_rows) (He.fAd K.K ("in_rows", none)) cdv A0 outer s H E) Wx) : ASs ⟨K, S0, H0⟩ (cxD K mg base ["items", "like", "found", "at", "row"] "in_rows" (defScope s_in_rows) (He.fAd K.K ("in_rows", none)) cdv A0 outer s H E) (defBody s_in_rows) (w_in_rows K Wx) := by
  have nd := sc_in_rows.nd
  unfold w_in_rows
  exact as_cons (as_set (j := 2) nd rfl (by first | exact Or.inl rfl | exact Or.inr rfl) (ae_lstB (aa_nil))) (as_cons (as_set (j := 3) nd rfl (by first | exact Or.inl rfl | exact Or.inr rfl) (ae_int)) (as_cons (as_for (passes_of rfl) rfl rfl (ai_any rfl (ae_var (i := 1))) (pgp_name (i := 4) nd rfl (by first | exact Or.inl rfl | exact Or.inr rfl)) (as_cons (as_expr (ae_bm (name := "append") PySem.F.plainAttrs_list PySem.F.slot_list_append PySem.F.type_list_append mt_append sm_append rfl (ae_var (i := 2)) (aa_cons (ae_slB rfl (ae_var (i := 0)) (ao_some (ae_var (i := 3))) (ao_some (ae_op op_addAll sr_addB (ae_var (i := 3)) (ae_callB call_lenB sc_lenB rfl (T.free 1) PyProof.Rows.Boot.«len» (aa_cons (ae_var (i := 4)) (aa_nil)))))) (aa_nil)))) (as_one (as_aug (j := 3) nd rfl (by first | exact Or.inl rfl | exact Or.inr rfl) (ae_callB call_lenB sc_lenB rfl (T.free 1) PyProof.Rows.Boot.«len» (aa_cons (ae_var (i := 4)) (aa_nil))) ip_add sr_ipI)))) (as_one (as_retF (ae_var (i := 2))))))
theorem b_items_of (T : TX K mg base)  (cdv : Value) (A0 : Around) (outer : List Env) (s : Shared) (H : Hp) (E : XK) (hr : Room 0 (A0.deeper (envOfC "items_of" (defScope s_items_of) s.heap.objs.size (He.fAd K.K ("items_of", none)) cdv))) (S0 : Store) (H0 : Hp) (Wx : XQ) (hx : Xc ⟨K, S0, H0⟩ (cxD K mg base ["rows", "found", "row"] "items_of" (defScope s_items_of) (He.fAd K.K ("items_of", none)) cdv A0 outer s H E) Wx) : ASs ⟨K, S0, H0⟩ (cxD K mg base ["rows", "found", "row"] "items_of" (defScope s_items_of) (He.fAd K.K ("items_of", none)) cdv A0 outer s H E) (defBody s_items_of) (w_items_of K Wx) := by
  have nd := sc_items_of.nd
  unfold w_items_of
  exact as_cons (as_set (j := 1) nd rfl (by first | exact Or.inl rfl | exact Or.inr rfl) (ae_lstB (aa_nil))) (as_cons (as_for (passes_of rfl) rfl rfl (ai_any rfl (ae_var (i := 0))) (pgp_name (i := 2) nd rfl (by first | exact Or.inl rfl | exact Or.inr rfl)) (as_one (as_expr (ae_bm (name := "extend") PySem.F.plainAttrs_list PySem.F.slot_list_extend PySem.F.type_list_extend mt_extend sm_extend rfl (ae_var (i := 1)) (aa_cons (ae_var (i := 2)) (aa_nil)))))) (as_one (as_retF (ae_var (i := 1)))))
theorem b_opened (T : TX K mg base)  (cdv : Value) (A0 : Around) (outer : List Env) (s : Shared) (H : Hp) (E : XK) (hr : Room 0 (A0.deeper (envOfC "opened" (defScope s_opened) s.heap.objs.size (He.fAd K.K ("opened", none)) cdv))) (S0 : Store) (H0 : Hp) (Wx : XQ) (hx : Xc ⟨K, S0, H0⟩ (cxD K mg base ["words", "keys", "holes", "found", "word", "key"] "opened" (defScope s_opened) (He.fAd K.K ("opened", none)) cdv A0 outer s H E) Wx) : ASs ⟨K, S0, H0⟩ (cxD K mg base ["words", "keys", "holes", "found", "word", "key"] "opened" (defScope s_opened) (He.fAd K.K ("opened", none)) cdv A0 outer s H E) (defBody s_opened) (w_opened K Wx) := by
  have nd := sc_opened.nd
  unfold w_opened
  exact as_cons (as_set (j := 2) nd rfl (by first | exact Or.inl rfl | exact Or.inr rfl) (ae_newD)) (as_cons (as_set (j := 3) nd rfl (by first | exact Or.inl rfl | exact Or.inr rfl) (ae_lstB (aa_nil))) (as_cons (as_for (passes_of rfl) rfl rfl (ai_zip rfl rfl (T.free 11) (aa_cons (ae_var (i := 0)) (aa_cons (ae_var (i := 1)) (aa_nil)))) (pgp_tup rfl (pgs_cons_ (pgp_name (i := 4) nd rfl (by first | exact Or.inl rfl | exact Or.inr rfl)) (pgs_cons_ (pgp_name (i := 5) nd rfl (by first | exact Or.inl rfl | exact Or.inr rfl)) (pgs_nil_)))) (as_one (as_if (at_cmp op_isA sr_isN (ae_var (i := 4)) (ae_non) rfl) (as_one (as_expr (ae_bm (name := "append") PySem.F.plainAttrs_list PySem.F.slot_list_append PySem.F.type_list_append mt_append sm_append rfl (ae_var (i := 3)) (aa_cons (ae_setdN rfl rfl hr.units (ae_var (i := 2)) (ae_var (i := 5)) (ae_callB call_lenB sc_lenB rfl (T.free 1) PyProof.Rows.Boot.«len» (aa_cons (ae_var (i := 2)) (aa_nil))) ⟨rfl, rfl, rfl, rfl⟩) (aa_nil))))) (as_one (as_expr (ae_bm (name := "append") PySem.F.plainAttrs_list PySem.F.slot_list_append PySem.F.type_list_append mt_append sm_append rfl (ae_var (i := 3)) (aa_cons (ae_var (i := 4)) (aa_nil)))))))) (as_one (as_retF (ae_var (i := 3))))))
theorem b_form_of (T : TX K mg base) (O_need_shape : OkF K mg base 3 ("need_shape", none) ["forms"] [] (A_need_shape K)) (O_items_of : OkF K mg base 1 ("items_of", none) ["rows"] [] (A_items_of K)) (O_in_rows : OkF K mg base 1 ("in_rows", none) ["items", "like"] [] (A_in_rows K)) (O_opened : OkF K mg base 1 ("opened", none) ["words", "keys"] [] (A_opened K)) (cdv : Value) (A0 : Around) (outer : List Env) (s : Shared) (H : Hp) (E : XK) (hr : Room 3 (A0.deeper (envOfC "form_of" (defScope s_form_of) s.heap.objs.size (He.fAd K.K ("form_of", none)) cdv))) (S0 : Store) (H0 : Hp) (Wx : XQ) (hx : Xc ⟨K, S0, H0⟩ (cxD K mg base ["stretches", "rows", "keys", "words", "k", "word", "key", "stretch", "row"] "form_of" (defScope s_form_of) (He.fAd K.K ("form_of", none)) cdv A0 outer s H E) Wx) : ASs ⟨K, S0, H0⟩ (cxD K mg base ["stretches", "rows", "keys", "words", "k", "word", "key", "stretch", "row"] "form_of" (defScope s_form_of) (He.fAd K.K ("form_of", none)) cdv A0 outer s H E) (defBody s_form_of) (w_form_of K Wx) := by
  have nd := sc_form_of.nd
  unfold w_form_of
  exact as_cons (as_if (at_cmp (op_eqA hr.units) sr_eq (ae_callB call_lenB sc_lenB rfl (T.free 1) PyProof.Rows.Boot.«len» (aa_cons (ae_var (i := 0)) (aa_nil))) (ae_int) rfl) (as_one (as_raise rfl (T.exc 12) (T.glo 13) rfl hx)) (as_nil)) (as_cons (as_expr (ae_callF O_need_shape rfl (hr.mono (by decide)) rfl (T.glo 14) hx (aa_cons (ae_var (i := 0)) (aa_nil)))) (as_cons (as_setLc (j := 1) (own := [("stretch", 7)]) rfl nd rfl rfl rfl rfl rfl rfl (ai_any rfl (ae_var (i := 0))) (blk_of (by kernel_rfl)) (by decide) (fun _ => rfl) (fun _ _ _ _ _ => pgp_name (i := 7) nd rfl (by first | exact Or.inl rfl | exact Or.inr rfl)) (fun _ _ _ _ _ => ats_nil) (fun _ _ _ _ _ => ae_callF O_items_of rfl (hr.mono (by decide)) rfl (T.glo 15) xc0 (aa_cons (ae_var (i := 7)) (aa_nil)))) (as_cons (as_set (j := 2) nd rfl (by first | exact Or.inl rfl | exact Or.inr rfl) (ae_lstB (aa_nil))) (as_cons (as_set (j := 3) nd rfl (by first | exact Or.inl rfl | exact Or.inr rfl) (ae_lstB (aa_nil))) (as_cons (as_for (passes_of rfl) rfl rfl (ai_enum rfl rfl (T.free 16) (aa_cons (ae_ix rfl hr.u1 (ae_var (i := 1)) (ae_int)) (aa_nil))) (pgp_tup rfl (pgs_cons_ (pgp_name (i := 4) nd rfl (by first | exact Or.inl rfl | exact Or.inr rfl)) (pgs_cons_ (pgp_name (i := 5) nd rfl (by first | exact Or.inl rfl | exact Or.inr rfl)) (pgs_nil_)))) (as_cons (as_set (j := 6) nd rfl (by first | exact Or.inl rfl | exact Or.inr rfl) (ae_callTy call_tupB sc_tupB rfl (T.free 17) PyProof.Rows.Boot.«tuple» (aa_cons (ae_ex fun m => ae_lc (own := [("row", 8)]) rfl nd rfl (ai_any rfl (ae_var (i := 1))) (blk_of (by kernel_rfl)) (by decide) (fun _ _ _ _ _ => pgp_name (i := 8) nd rfl (by first | exact Or.inl rfl | exact Or.inr rfl)) (fun _ _ _ _ _ => ats_nil) (fun _ _ _ _ _ => ae_ix rfl hr.u1 (ae_var (i := 8)) (ae_var (i := 4)))) (aa_nil)))) (as_cons (as_expr (ae_bm (name := "append") PySem.F.plainAttrs_list PySem.F.slot_list_append PySem.F.type_list_append mt_append sm_append rfl (ae_var (i := 2)) (aa_cons (ae_var (i := 6)) (aa_nil)))) (as_one (as_expr (ae_bm (name := "append") PySem.F.plainAttrs_list PySem.F.slot_list_append PySem.F.type_list_append mt_append sm_append rfl (ae_var (i := 3)) (aa_cons (ae_if (at_cmp (op_eqA hr.units) sr_eq (ae_tcount (ae_var (i := 6)) (ae_var (i := 5)) ⟨rfl, rfl, rfl, rfl⟩) (ae_callB call_lenB sc_lenB rfl (T.free 1) PyProof.Rows.Boot.«len» (aa_cons (ae_var (i := 6)) (aa_nil))) rfl) (ae_var (i := 5)) (ae_non)) (aa_nil)))))))) (as_one (as_retF (ae_callF O_in_rows rfl (hr.mono (by decide)) rfl (T.glo 19) hx (aa_cons (ae_callF O_opened rfl (hr.mono (by decide)) rfl (T.glo 18) hx (aa_cons (ae_var (i := 3)) (aa_cons (ae_var (i := 2)) (aa_nil)))) (aa_cons (ae_ix rfl hr.u1 (ae_var (i := 0)) (ae_int)) (aa_nil)))))))))))
theorem b_law_classes (T : TX K mg base)  (cdv : Value) (A0 : Around) (outer : List Env) (s : Shared) (H : Hp) (E : XK) (hr : Room 0 (A0.deeper (envOfC "_law_classes" (defScope s_law_classes) s.heap.objs.size (He.fAd K.K ("_law_classes", none)) cdv))) (S0 : Store) (H0 : Hp) (Wx : XQ) (hx : Xc ⟨K, S0, H0⟩ (cxD K mg base ["_law_error", "_law_found"] "_law_classes" (defScope s_law_classes) (He.fAd K.K ("_law_classes", none)) cdv A0 outer s H E) Wx) : ASs ⟨K, S0, H0⟩ (cxD K mg base ["_law_error", "_law_found"] "_law_classes" (defScope s_law_classes) (He.fAd K.K ("_law_classes", none)) cdv A0 outer s H E) (defBody s_law_classes) (w_law_classes K Wx) := by
  have nd := sc_law_classes.nd
  unfold w_law_classes
  exact as_cons (as_set (j := 1) nd rfl (by first | exact Or.inl rfl | exact Or.inr rfl) (ae_lstB (aa_cons (ae_callB call_isiB sc_isiB rfl (T.free 21) PyProof.Rows.Boot.«isinstance» (aa_cons (ae_var (i := 0)) (aa_cons (ae_cls (T.glo 10)) (aa_nil)))) (aa_cons (ae_callB call_isiB sc_isiB rfl (T.free 21) PyProof.Rows.Boot.«isinstance» (aa_cons (ae_var (i := 0)) (aa_cons (ae_cls (T.glo 13)) (aa_nil)))) (aa_cons (ae_callB call_isiB sc_isiB rfl (T.free 21) PyProof.Rows.Boot.«isinstance» (aa_cons (ae_var (i := 0)) (aa_cons (ae_cls (T.glo 20)) (aa_nil)))) (aa_nil)))))) (as_cons (as_set (j := 1) nd rfl (by first | exact Or.inl rfl | exact Or.inr rfl) (ae_op op_addAll sr_addB (ae_var (i := 1)) (ae_lstB (aa_cons (ae_callB call_isiB sc_isiB rfl (T.free 21) PyProof.Rows.Boot.«isinstance» (aa_cons (ae_var (i := 0)) (aa_cons (ae_cls (T.glo 24)) (aa_nil)))) (aa_cons (ae_callB call_isiB sc_isiB rfl (T.free 21) PyProof.Rows.Boot.«isinstance» (aa_cons (ae_var (i := 0)) (aa_cons (ae_cls (T.glo 23)) (aa_nil)))) (aa_cons (ae_callB call_isiB sc_isiB rfl (T.free 21) PyProof.Rows.Boot.«isinstance» (aa_cons (ae_var (i := 0)) (aa_cons (ae_cls (T.glo 22)) (aa_nil)))) (aa_nil))))))) (as_one (as_retF (ae_op op_addAll sr_addB (ae_var (i := 1)) (ae_lstB (aa_cons (ae_callB call_isiB sc_isiB rfl (T.free 21) PyProof.Rows.Boot.«isinstance» (aa_cons (ae_var (i := 0)) (aa_cons (ae_bty (T.free 25) PyProof.Rows.Boot.«ValueError») (aa_nil)))) (aa_nil)))))))
theorem b_law_asked (T : TX K mg base)  (O_law_classes : OkF K mg base 1 ("_law_classes", none) ["_law_error"] [] (A_law_classes K)) (O_form_ofK : OkK K mg base 4 ("form_of", none) ["stretches"] (A_form_of K)) (cdv : Value) (A0 : Around) (outer : List Env) (s : Shared) (H : Hp) (E : XK) (hr : Room 4 (A0.deeper (envOfC "_law_asked" (defScope s_law_asked) s.heap.objs.size (He.fAd K.K ("_law_asked", none)) cdv))) (S0 : Store) (H0 : Hp) (Wx : XQ) (hx : Xc ⟨K, S0, H0⟩ (cxD K mg base ["_law_given", "_law_caught", "_law_found", "_law_error"] "_law_asked" (defScope s_law_asked) (He.fAd K.K ("_law_asked", none)) cdv A0 outer s H E) Wx) : ASs ⟨K, S0, H0⟩ (cxD K mg base ["_law_given", "_law_caught", "_law_found", "_law_error"] "_law_asked" (defScope s_law_asked) (He.fAd K.K ("_law_asked", none)) cdv A0 outer s H E) (defBody s_law_asked) (w_law_asked K Wx) := by
  have nd := sc_law_asked.nd
  unfold w_law_asked
  exact as_cons (as_set (j := 1) nd rfl (by first | exact Or.inl rfl | exact Or.inr rfl) (ae_non)) (as_cons (as_set (j := 2) nd rfl (by first | exact Or.inl rfl | exact Or.inr rfl) (ae_non)) (as_cons (as_try (i := 3) rfl rfl rfl rfl nd rfl rfl ⟨rfl, by decide, .inl (T.glo 27)⟩ hx (fun _ _ _ _ Wx' pas' hx' => as_one (as_set (j := 2) nd rfl (by first | exact Or.inl rfl | exact Or.inr rfl) (ae_callKF O_form_ofK rfl (hr.mono (by decide)) rfl (T.glo 26) hx' (ak_cons (ae_var (i := 0)) (ak_nil)) (fun _ _ _ _ h => l_form_of h)))) (fun _ _ _ _ => as_one (as_set (j := 1) nd rfl (by first | exact Or.inl rfl | exact Or.inr rfl) (ae_var (i := 3))))) (as_cons (as_if (at_cmp op_isA sr_isN (ae_var (i := 1)) (ae_non) rfl) (as_one (as_retF (ae_tup (aa_cons (ae_str) (aa_cons (ae_var (i := 2)) (aa_nil)))))) (as_nil)) (as_cons (as_if (at_val (ae_callB call_isiB sc_isiB rfl (T.free 21) PyProof.Rows.Boot.«isinstance» (aa_cons (ae_var (i := 1)) (aa_cons (ae_cls (T.glo 10)) (aa_nil))))) (as_one (as_retF (ae_tup (aa_cons (ae_str) (aa_cons (ae_op op_addAll sr_addB (ae_callF O_law_classes rfl (hr.mono (by decide)) rfl (T.glo 28) hx (aa_cons (ae_var (i := 1)) (aa_nil))) (ae_lstB (aa_cons (ae_xget (n := "row") rfl (ae_var (i := 1))) (aa_nil)))) (aa_nil)))))) (as_nil)) (as_one (as_retF (ae_tup (aa_cons (ae_str) (aa_cons (ae_callF O_law_classes rfl (hr.mono (by decide)) rfl (T.glo 28) hx (aa_cons (ae_var (i := 1)) (aa_nil))) (aa_nil))))))))))
theorem b_law_unlike (T : TX K mg base)  (cdv : Value) (A0 : Around) (outer : List Env) (s : Shared) (H : Hp) (E : XK) (hr : Room 0 (A0.deeper (envOfC "_law_unlike" (defScope s_law_unlike) s.heap.objs.size (He.fAd K.K ("_law_unlike", none)) cdv))) (S0 : Store) (H0 : Hp) (Wx : XQ) (hx : Xc ⟨K, S0, H0⟩ (cxD K mg base ["_law_some", "_law_row", "_law_here", "_law_one"] "_law_unlike" (defScope s_law_unlike) (He.fAd K.K ("_law_unlike", none)) cdv A0 outer s H E) Wx) : ASs ⟨K, S0, H0⟩ (cxD K mg base ["_law_some", "_law_row", "_law_here", "_law_one"] "_law_unlike" (defScope s_law_unlike) (He.fAd K.K ("_law_unlike", none)) cdv A0 outer s H E) (defBody s_law_unlike) (w_law_unlike K Wx) := by
  have nd := sc_law_unlike.nd
  unfold w_law_unlike
  exact as_cons (as_for (passes_of rfl) rfl rfl (ai_range1 rfl (T.free 4) (aa_cons (ae_callB (cr_max rfl) sc_maxL rfl (T.free 7) PyProof.Rows.Boot.«max» (aa_cons (ae_ex fun m => ae_lc (own := [("_law_one", 3)]) rfl nd rfl (ai_any rfl (ae_var (i := 0))) (blk_of (by kernel_rfl)) (by decide) (fun _ _ _ _ _ => pgp_name (i := 3) nd rfl (by first | exact Or.inl rfl | exact Or.inr rfl)) (fun _ _ _ _ _ => ats_nil) (fun _ _ _ _ _ => ae_callB call_lenB sc_lenB rfl (T.free 1) PyProof.Rows.Boot.«len» (aa_cons (ae_var (i := 3)) (aa_nil)))) (aa_nil))) (aa_nil))) (pgp_name (i := 1) nd rfl (by first | exact Or.inl rfl | exact Or.inr rfl)) (as_cons (as_setLc (j := 2) (own := [("_law_one", 3)]) rfl nd rfl rfl rfl rfl rfl rfl (ai_any rfl (ae_var (i := 0))) (blk_of (by kernel_rfl)) (by decide) (fun _ => rfl) (fun _ _ _ _ _ => pgp_name (i := 3) nd rfl (by first | exact Or.inl rfl | exact Or.inr rfl)) (fun _ _ _ _ _ => ats_nil) (fun _ _ _ _ _ => ae_if (at_cmp op_ltA sr_cmp (ae_var (i := 1)) (ae_callB call_lenB sc_lenB rfl (T.free 1) PyProof.Rows.Boot.«len» (aa_cons (ae_var (i := 3)) (aa_nil))) rfl) (ae_ix rfl hr.u1 (ae_var (i := 3)) (ae_var (i := 1))) (ae_non))) (as_one (as_if (at_cmp (op_neA hr.units) sr_eq (ae_bm (name := "count") PySem.F.plainAttrs_list PySem.F.slot_list_count PySem.F.type_list_count mt_cntF sm_count rfl (ae_var (i := 2)) (aa_cons (ae_ix rfl hr.u1 (ae_var (i := 2)) (ae_int)) (aa_nil))) (ae_callB call_lenB sc_lenB rfl (T.free 1) PyProof.Rows.Boot.«len» (aa_cons (ae_var (i := 2)) (aa_nil))) rfl) (as_one (as_retF (ae_var (i := 1)))) (as_nil))))) (as_one (as_retF (ae_non)))
theorem b_law_in_rows (T : TX K mg base)  (cdv : Value) (A0 : Around) (outer : List Env) (s : Shared) (H : Hp) (E : XK) (hr : Room 0 (A0.deeper (envOfC "_law_in_rows" (defScope s_law_in_rows) s.heap.objs.size (He.fAd K.K ("_law_in_rows", none)) cdv))) (S0 : Store) (H0 : Hp) (Wx : XQ) (hx : Xc ⟨K, S0, H0⟩ (cxD K mg base ["_law_items_here", "_law_shape_here", "_law_found", "_law_at", "_law_size"] "_law_in_rows" (defScope s_law_in_rows) (He.fAd K.K ("_law_in_rows", none)) cdv A0 outer s H E) Wx) : ASs ⟨K, S0, H0⟩ (cxD K mg base ["_law_items_here", "_law_shape_here", "_law_found", "_law_at", "_law_size"] "_law_in_rows" (defScope s_law_in_rows) (He.fAd K.K ("_law_in_rows", none)) cdv A0 outer s H E) (defBody s_law_in_rows) (w_law_in_rows K Wx) := by
  have nd := sc_law_in_rows.nd
  unfold w_law_in_rows
  exact as_cons (as_set (j := 2) nd rfl (by first | exact Or.inl rfl | exact Or.inr rfl) (ae_lstB (aa_nil))) (as_cons (as_set (j := 3) nd rfl (by first | exact Or.inl rfl | exact Or.inr rfl) (ae_int)) (as_cons (as_for (passes_of rfl) rfl rfl (ai_any rfl (ae_var (i := 1))) (pgp_name (i := 4) nd rfl (by first | exact Or.inl rfl | exact Or.inr rfl)) (as_cons (as_expr (ae_bm (name := "append") PySem.F.plainAttrs_list PySem.F.slot_list_append PySem.F.type_list_append mt_append sm_append rfl (ae_var (i := 2)) (aa_cons (ae_slB rfl (ae_var (i := 0)) (ao_some (ae_var (i := 3))) (ao_some (ae_op op_addAll sr_addB (ae_var (i := 3)) (ae_var (i := 4))))) (aa_nil)))) (as_one (as_set (j := 3) nd rfl (by first | exact Or.inl rfl | exact Or.inr rfl) (ae_op op_addAll sr_addB (ae_var (i := 3)) (ae_var (i := 4))))))) (as_one (as_retF (ae_var (i := 2))))))
theorem b_law_stretch (T : TX K mg base) (O_law_in_rows : OkF K mg base 1 ("_law_in_rows", none) ["_law_items_here", "_law_shape_here"] [] (A_law_in_rows K)) (O_law_pick : OkF K mg base 3 ("_law_pick", none) ["_law_state", "_law_some"] [] (A_law_pick K)) (cdv : Value) (A0 : Around) (outer : List Env) (s : Shared) (H : Hp) (E : XK) (hr : Room 3 (A0.deeper (envOfC "_law_stretch" (defScope s_law_stretch) s.heap.objs.size (He.fAd K.K ("_law_stretch", none)) cdv))) (S0 : Store) (H0 : Hp) (Wx : XQ) (hx : Xc ⟨K, S0, H0⟩ (cxD K mg base ["_law_state", "_law_shape_here", "_law_pool_here", "_law_k"] "_law_stretch" (defScope s_law_stretch) (He.fAd K.K ("_law_stretch", none)) cdv A0 outer s H E) Wx) : ASs ⟨K, S0, H0⟩ (cxD K mg base ["_law_state", "_law_shape_here", "_law_pool_here", "_law_k"] "_law_stretch" (defScope s_law_stretch) (He.fAd K.K ("_law_stretch", none)) cdv A0 outer s H E) (defBody s_law_stretch) (w_law_stretch K Wx) := by
  have nd := sc_law_stretch.nd
  unfold w_law_stretch
  exact as_one (as_retF (ae_callF O_law_in_rows rfl (hr.mono (by decide)) rfl (T.glo 30) hx (aa_cons (ae_ex fun m => ae_lc (own := [("_law_k", 3)]) rfl nd rfl (ai_range1 rfl (T.free 4) (aa_cons (ae_callB (cr_sum rfl) sc_sum rfl (T.free 29) PyProof.Rows.Boot.«sum» (aa_cons (ae_var (i := 1)) (aa_nil))) (aa_nil))) (blk_of (by kernel_rfl)) (by decide) (fun _ _ _ _ _ => pgp_name (i := 3) nd rfl (by first | exact Or.inl rfl | exact Or.inr rfl)) (fun _ _ _ _ _ => ats_nil) (fun _ _ _ _ _ => ae_callF O_law_pick rfl (hr.mono (by decide)) rfl (T.glo 5) xc0 (aa_cons (ae_var (i := 0)) (aa_cons (ae_var (i := 2)) (aa_nil))))) (aa_cons (ae_var (i := 1)) (aa_nil)))))
theorem b_law_reshaped (T : TX K mg base)  (cdv : Value) (A0 : Around) (outer : List Env) (s : Shared) (H : Hp) (E : XK) (hr : Room 0 (A0.deeper (envOfC "_law_reshaped" (defScope s_law_reshaped) s.heap.objs.size (He.fAd K.K ("_law_reshaped", none)) cdv))) (S0 : Store) (H0 : Hp) (Wx : XQ) (hx : Xc ⟨K, S0, H0⟩ (cxD K mg base ["_law_way", "_law_place", "_law_rows", "_law_at", "_law_row", "_law_k"] "_law_reshaped" (defScope s_law_reshaped) (He.fAd K.K ("_law_reshaped", none)) cdv A0 outer s H E) Wx) : ASs ⟨K, S0, H0⟩ (cxD K mg base ["_law_way", "_law_place", "_law_rows", "_law_at", "_law_row", "_law_k"] "_law_reshaped" (defScope s_law_reshaped) (He.fAd K.K ("_law_reshaped", none)) cdv A0 outer s H E) (defBody s_law_reshaped) (w_law_reshaped K Wx) := by
  have nd := sc_law_reshaped.nd
  unfold w_law_reshaped
  exact as_cons (as_set (j := 3) nd rfl (by first | exact Or.inl rfl | exact Or.inr rfl) (ae_op op_mod (sr_I fun _ _ _ _ => rp_int) (ae_var (i := 1)) (ae_callB (call_max2 rfl) sc_max2 rfl (T.free 7) PyProof.Rows.Boot.«max» (aa_cons (ae_int) (aa_cons (ae_callB call_lenB sc_lenB rfl (T.free 1) PyProof.Rows.Boot.«len» (aa_cons (ae_var (i := 2)) (aa_nil))) (aa_nil)))))) (as_cut (as_if (at_w (aw_and (at_cmp (op_eqA hr.units) sr_eq (ae_var (i := 0)) (ae_int) rfl) (aw_and1 (at_cmp op_ltA sr_cmp (ae_callB call_lenB sc_lenB rfl (T.free 1) PyProof.Rows.Boot.«len» (aa_cons (ae_var (i := 2)) (aa_nil))) (ae_int) rfl)))) (as_one (as_retF (ae_op op_addAll sr_addB (ae_op op_addAll sr_addB (ae_slB rfl (ae_var (i := 2)) ao_none (ao_some (ae_var (i := 3)))) (ae_lstB (aa_cons (ae_lstB (aa_nil)) (aa_nil)))) (ae_slB rfl (ae_var (i := 2)) (ao_some (ae_var (i := 3))) ao_none)))) (as_nil)) (as_cons (as_if (at_cmp (op_eqA hr.units) sr_eq (ae_var (i := 2)) (ae_lstB (aa_nil)) rfl) (as_one (as_retF (ae_var (i := 2)))) (as_nil)) (as_cons (as_set (j := 4) nd rfl (by first | exact Or.inl rfl | exact Or.inr rfl) (ae_ix rfl hr.u1 (ae_var (i := 2)) (ae_var (i := 3)))) (as_cons (as_set (j := 5) nd rfl (by first | exact Or.inl rfl | exact Or.inr rfl) (ae_op op_mod (sr_I fun _ _ _ _ => rp_int) (ae_op op_fdiv (sr_I fun _ _ _ _ => rp_int) (ae_var (i := 1)) (ae_int)) (ae_callB (call_max2 rfl) sc_max2 rfl (T.free 7) PyProof.Rows.Boot.«max» (aa_cons (ae_int) (aa_cons (ae_callB call_lenB sc_lenB rfl (T.free 1) PyProof.Rows.Boot.«len» (aa_cons (ae_var (i := 4)) (aa_nil))) (aa_nil)))))) (as_cons (as_if (at_cmp (op_eqA hr.units) sr_eq (ae_var (i := 0)) (ae_int) rfl) (as_one (as_retF (ae_op op_addAll sr_addB (ae_slB rfl (ae_var (i := 2)) ao_none (ao_some (ae_var (i := 3)))) (ae_slB rfl (ae_var (i := 2)) (ao_some (ae_op op_addAll sr_addB (ae_var (i := 3)) (ae_int))) ao_none)))) (as_nil)) (as_cut (as_if (at_w (aw_and (at_cmp (op_eqA hr.units) sr_eq (ae_var (i := 0)) (ae_int) rfl) (aw_and1 (at_cmp op_ltA sr_cmp (ae_callB call_lenB sc_lenB rfl (T.free 1) PyProof.Rows.Boot.«len» (aa_cons (ae_var (i := 4)) (aa_nil))) (ae_int) rfl)))) (as_one (as_retF (ae_op op_addAll sr_addB (ae_op op_addAll sr_addB (ae_slB rfl (ae_var (i := 2)) ao_none (ao_some (ae_var (i := 3)))) (ae_lstB (aa_cons (ae_op op_addAll sr_addB (ae_op op_addAll sr_addB (ae_slB rfl (ae_var (i := 4)) ao_none (ao_some (ae_var (i := 5)))) (ae_lstB (aa_cons (ae_str) (aa_nil)))) (ae_slB rfl (ae_var (i := 4)) (ao_some (ae_var (i := 5))) ao_none)) (aa_nil)))) (ae_slB rfl (ae_var (i := 2)) (ao_some (ae_op op_addAll sr_addB (ae_var (i := 3)) (ae_int))) ao_none)))) (as_nil)) (as_cut (as_if (at_w (aw_and (at_cmp (op_eqA hr.units) sr_eq (ae_var (i := 0)) (ae_int) rfl) (aw_and (at_cmp op_ltA sr_cmp (ae_op op_addAll sr_addB (ae_var (i := 3)) (ae_int)) (ae_callB call_lenB sc_lenB rfl (T.free 1) PyProof.Rows.Boot.«len» (aa_cons (ae_var (i := 2)) (aa_nil))) rfl) (aw_and1 (at_cmp op_ltA sr_cmp (ae_callB call_lenB sc_lenB rfl (T.free 1) PyProof.Rows.Boot.«len» (aa_cons (ae_ix rfl hr.u1 (ae_var (i := 2)) (ae_op op_addAll sr_addB (ae_var (i := 3)) (ae_int))) (aa_nil))) (ae_int) rfl))))) (as_one (as_retF (ae_op op_addAll sr_addB (ae_op op_addAll sr_addB (ae_slB rfl (ae_var (i := 2)) ao_none (ao_some (ae_var (i := 3)))) (ae_lstB (aa_cons (ae_slB rfl (ae_var (i := 4)) ao_none (ao_some (ae_op op_sub (sr_I0 fun _ _ _ _ => rp_int) (ae_callB call_lenB sc_lenB rfl (T.free 1) PyProof.Rows.Boot.«len» (aa_cons (ae_var (i := 4)) (aa_nil))) (ae_int)))) (aa_cons (ae_op op_addAll sr_addB (ae_slB rfl (ae_var (i := 4)) (ao_some (ae_op op_sub (sr_I0 fun _ _ _ _ => rp_int) (ae_callB call_lenB sc_lenB rfl (T.free 1) PyProof.Rows.Boot.«len» (aa_cons (ae_var (i := 4)) (aa_nil))) (ae_int))) ao_none) (ae_ix rfl hr.u1 (ae_var (i := 2)) (ae_op op_addAll sr_addB (ae_var (i := 3)) (ae_int)))) (aa_nil))))) (ae_slB rfl (ae_var (i := 2)) (ao_some (ae_op op_addAll sr_addB (ae_var (i := 3)) (ae_int))) ao_none)))) (as_nil)) (as_one (as_retF (ae_op op_addAll sr_addB (ae_op op_addAll sr_addB (ae_slB rfl (ae_var (i := 2)) ao_none (ao_some (ae_var (i := 3)))) (ae_lstB (aa_cons (ae_op op_addAll sr_addB (ae_slB rfl (ae_var (i := 4)) ao_none (ao_some (ae_var (i := 5)))) (ae_slB rfl (ae_var (i := 4)) (ao_some (ae_op op_addAll sr_addB (ae_var (i := 5)) (ae_int))) ao_none)) (aa_nil)))) (ae_slB rfl (ae_var (i := 2)) (ao_some (ae_op op_addAll sr_addB (ae_var (i := 3)) (ae_int))) ao_none)))))))))))
theorem b_law_copy (T : TX K mg base)  (cdv : Value) (A0 : Around) (outer : List Env) (s : Shared) (H : Hp) (E : XK) (hr : Room 0 (A0.deeper (envOfC "_law_copy" (defScope s_law_copy) s.heap.objs.size (He.fAd K.K ("_law_copy", none)) cdv))) (S0 : Store) (H0 : Hp) (Wx : XQ) (hx : Xc ⟨K, S0, H0⟩ (cxD K mg base ["_law_rows", "_law_row"] "_law_copy" (defScope s_law_copy) (He.fAd K.K ("_law_copy", none)) cdv A0 outer s H E) Wx) : ASs ⟨K, S0, H0⟩ (cxD K mg base ["_law_rows", "_law_row"] "_law_copy" (defScope s_law_copy) (He.fAd K.K ("_law_copy", none)) cdv A0 outer s H E) (defBody s_law_copy) (w_law_copy K Wx) := by
  have nd := sc_law_copy.nd
  unfold w_law_copy
  exact as_one (as_retF (ae_ex fun m => ae_lc (own := [("_law_row", 1)]) rfl nd rfl (ai_any rfl (ae_var (i := 0))) (blk_of (by kernel_rfl)) (by decide) (fun _ _ _ _ _ => pgp_name (i := 1) nd rfl (by first | exact Or.inl rfl | exact Or.inr rfl)) (fun _ _ _ _ _ => ats_nil) (fun _ _ _ _ _ => ae_callTy call_list_of sc_listB rfl (T.free 0) PyProof.Rows.Boot.«list» (aa_cons (ae_var (i := 1)) (aa_nil)))))
theorem b_law_own (T : TX K mg base) (O_law_copy : OkF K mg base 1 ("_law_copy", none) ["_law_rows"] [] (A_law_copy K)) (cdv : Value) (A0 : Around) (outer : List Env) (s : Shared) (H : Hp) (E : XK) (hr : Room 1 (A0.deeper (envOfC "_law_own" (defScope s_law_own) s.heap.objs.size (He.fAd K.K ("_law_own", none)) cdv))) (S0 : Store) (H0 : Hp) (Wx : XQ) (hx : Xc ⟨K, S0, H0⟩ (cxD K mg base ["_law_found", "_law_kept", "_law_row"] "_law_own" (defScope s_law_own) (He.fAd K.K ("_law_own", none)) cdv A0 outer s H E) Wx) : ASs ⟨K, S0, H0⟩ (cxD K mg base ["_law_found", "_law_kept", "_law_row"] "_law_own" (defScope s_law_own) (He.fAd K.K ("_law_own", none)) cdv A0 outer s H E) (defBody s_law_own) (w_law_own K Wx) := by
  have nd := sc_law_own.nd
  unfold w_law_own
  exact as_cons (as_set (j := 1) nd rfl (by first | exact Or.inl rfl | exact Or.inr rfl) (ae_callF O_law_copy rfl (hr.mono (by decide)) rfl (T.glo 31) hx (aa_cons (ae_var (i := 0)) (aa_nil)))) (as_cons (as_for (passes_of rfl) rfl rfl (ai_any rfl (ae_var (i := 0))) (pgp_name (i := 2) nd rfl (by first | exact Or.inl rfl | exact Or.inr rfl)) (as_one (as_expr (ae_bm (name := "append") PySem.F.plainAttrs_list PySem.F.slot_list_append PySem.F.type_list_append mt_append sm_append rfl (ae_var (i := 2)) (aa_cons (ae_str) (aa_nil)))))) (as_one (as_retF (ae_cmp (op_eqA hr.units) sr_eq (ae_var (i := 0)) (ae_ex fun m => ae_lc (own := [("_law_row", 2)]) rfl nd rfl (ai_any rfl (ae_var (i := 1))) (blk_of (by kernel_rfl)) (by decide) (fun _ _ _ _ _ => pgp_name (i := 2) nd rfl (by first | exact Or.inl rfl | exact Or.inr rfl)) (fun _ _ _ _ _ => ats_nil) (fun _ _ _ _ _ => ae_op op_addAll sr_addB (ae_var (i := 2)) (ae_lstB (aa_cons (ae_str) (aa_nil))))) rfl))))
theorem b_law_shape_of (T : TX K mg base)  (cdv : Value) (A0 : Around) (outer : List Env) (s : Shared) (H : Hp) (E : XK) (hr : Room 0 (A0.deeper (envOfC "_law_shape_of" (defScope s_law_shape_of) s.heap.objs.size (He.fAd K.K ("_law_shape_of", none)) cdv))) (S0 : Store) (H0 : Hp) (Wx : XQ) (hx : Xc ⟨K, S0, H0⟩ (cxD K mg base ["_law_rows", "_law_row"] "_law_shape_of" (defScope s_law_shape_of) (He.fAd K.K ("_law_shape_of", none)) cdv A0 outer s H E) Wx) : ASs ⟨K, S0, H0⟩ (cxD K mg base ["_law_rows", "_law_row"] "_law_shape_of" (defScope s_law_shape_of) (He.fAd K.K ("_law_shape_of", none)) cdv A0 outer s H E) (defBody s_law_shape_of) (w_law_shape_of K Wx) := by
  have nd := sc_law_shape_of.nd
  unfold w_law_shape_of
  exact as_one (as_retF (ae_ex fun m => ae_lc (own := [("_law_row", 1)]) rfl nd rfl (ai_any rfl (ae_var (i := 0))) (blk_of (by kernel_rfl)) (by decide) (fun _ _ _ _ _ => pgp_name (i := 1) nd rfl (by first | exact Or.inl rfl | exact Or.inr rfl)) (fun _ _ _ _ _ => ats_nil) (fun _ _ _ _ _ => ae_callB call_lenB sc_lenB rfl (T.free 1) PyProof.Rows.Boot.«len» (aa_cons (ae_var (i := 1)) (aa_nil)))))
theorem b_law_items (T : TX K mg base)  (cdv : Value) (A0 : Around) (outer : List Env) (s : Shared) (H : Hp) (E : XK) (hr : Room 0 (A0.deeper (envOfC "_law_items" (defScope s_law_items) s.heap.objs.size (He.fAd K.K ("_law_items", none)) cdv))) (S0 : Store) (H0 : Hp) (Wx : XQ) (hx : Xc ⟨K, S0, H0⟩ (cxD K mg base ["_law_rows", "_law_found", "_law_row"] "_law_items" (defScope s_law_items) (He.fAd K.K ("_law_items", none)) cdv A0 outer s H E) Wx) : ASs ⟨K, S0, H0⟩ (cxD K mg base ["_law_rows", "_law_found", "_law_row"] "_law_items" (defScope s_law_items) (He.fAd K.K ("_law_items", none)) cdv A0 outer s H E) (defBody s_law_items) (w_law_items K Wx) := by
  have nd := sc_law_items.nd
  unfold w_law_items
  exact as_cons (as_set (j := 1) nd rfl (by first | exact Or.inl rfl | exact Or.inr rfl) (ae_lstB (aa_nil))) (as_cons (as_for (passes_of rfl) rfl rfl (ai_any rfl (ae_var (i := 0))) (pgp_name (i := 2) nd rfl (by first | exact Or.inl rfl | exact Or.inr rfl)) (as_one (as_set (j := 1) nd rfl (by first | exact Or.inl rfl | exact Or.inr rfl) (ae_op op_addAll sr_addB (ae_var (i := 1)) (ae_callTy call_list_of sc_listB rfl (T.free 0) PyProof.Rows.Boot.«list» (aa_cons (ae_var (i := 2)) (aa_nil))))))) (as_one (as_retF (ae_var (i := 1)))))
theorem b_law_hole (T : TX K mg base)  (cdv : Value) (A0 : Around) (outer : List Env) (s : Shared) (H : Hp) (E : XK) (hr : Room 0 (A0.deeper (envOfC "_law_hole" (defScope s_law_hole) s.heap.objs.size (He.fAd K.K ("_law_hole", none)) cdv))) (S0 : Store) (H0 : Hp) (Wx : XQ) (hx : Xc ⟨K, S0, H0⟩ (cxD K mg base ["_law_item"] "_law_hole" (defScope s_law_hole) (He.fAd K.K ("_law_hole", none)) cdv A0 outer s H E) Wx) : ASs ⟨K, S0, H0⟩ (cxD K mg base ["_law_item"] "_law_hole" (defScope s_law_hole) (He.fAd K.K ("_law_hole", none)) cdv A0 outer s H E) (defBody s_law_hole) (w_law_hole K Wx) := by
  have nd := sc_law_hole.nd
  unfold w_law_hole
  exact as_one (as_retF (ae_and (ae_callB call_isiB sc_isiB rfl (T.free 21) PyProof.Rows.Boot.«isinstance» (aa_cons (ae_var (i := 0)) (aa_cons (ae_bty (T.free 32) PyProof.Rows.Boot.«int») (aa_nil)))) (ae_one (ae_not (ae_callB call_isiB sc_isiB rfl (T.free 21) PyProof.Rows.Boot.«isinstance» (aa_cons (ae_var (i := 0)) (aa_cons (ae_bty (T.free 33) PyProof.Rows.Boot.«bool») (aa_nil))))))))
theorem b_law_is_form (T : TX K mg base) (O_law_items : OkF K mg base 1 ("_law_items", none) ["_law_rows"] [] (A_law_items K)) (O_law_hole : OkF K mg base 1 ("_law_hole", none) ["_law_item"] [] (A_law_hole K)) (cdv : Value) (A0 : Around) (outer : List Env) (s : Shared) (H : Hp) (E : XK) (hr : Room 1 (A0.deeper (envOfC "_law_is_form" (defScope s_law_is_form) s.heap.objs.size (He.fAd K.K ("_law_is_form", none)) cdv))) (S0 : Store) (H0 : Hp) (Wx : XQ) (hx : Xc ⟨K, S0, H0⟩ (cxD K mg base ["_law_thing", "_law_shape_here", "_law_many", "_law_item", "_law_row"] "_law_is_form" (defScope s_law_is_form) (He.fAd K.K ("_law_is_form", none)) cdv A0 outer s H E) Wx) : ASs ⟨K, S0, H0⟩ (cxD K mg base ["_law_thing", "_law_shape_here", "_law_many", "_law_item", "_law_row"] "_law_is_form" (defScope s_law_is_form) (He.fAd K.K ("_law_is_form", none)) cdv A0 outer s H E) (defBody s_law_is_form) (w_law_is_form K Wx) := by
  have nd := sc_law_is_form.nd
  unfold w_law_is_form
  exact as_cons (as_if (at_w (aw_or (at_not (at_val (ae_callB call_isiB sc_isiB rfl (T.free 21) PyProof.Rows.Boot.«isinstance» (aa_cons (ae_var (i := 0)) (aa_cons (ae_bty (T.free 0) PyProof.Rows.Boot.«list») (aa_nil)))))) (aw_or1 (at_cmp (op_neA hr.units) sr_eq (ae_ex fun m => ae_lc (own := [("_law_row", 4)]) rfl nd rfl (ai_any rfl (ae_var (i := 0))) (blk_of (by kernel_rfl)) (by decide) (fun _ _ _ _ _ => pgp_name (i := 4) nd rfl (by first | exact Or.inl rfl | exact Or.inr rfl)) (fun _ _ _ _ _ => ats_one (at_not (at_val (ae_callB call_isiB sc_isiB rfl (T.free 21) PyProof.Rows.Boot.«isinstance» (aa_cons (ae_var (i := 4)) (aa_cons (ae_bty (T.free 0) PyProof.Rows.Boot.«list») (aa_nil))))))) (fun _ _ _ _ _ => ae_var (i := 4))) (ae_lstB (aa_nil)) rfl)))) (as_one (as_retF (ae_bl))) (as_nil)) (as_cons (as_if (at_cmp (op_neA hr.units) sr_eq (ae_ex fun m => ae_lc (own := [("_law_row", 4)]) rfl nd rfl (ai_any rfl (ae_var (i := 0))) (blk_of (by kernel_rfl)) (by decide) (fun _ _ _ _ _ => pgp_name (i := 4) nd rfl (by first | exact Or.inl rfl | exact Or.inr rfl)) (fun _ _ _ _ _ => ats_nil) (fun _ _ _ _ _ => ae_callB call_lenB sc_lenB rfl (T.free 1) PyProof.Rows.Boot.«len» (aa_cons (ae_var (i := 4)) (aa_nil)))) (ae_var (i := 1)) rfl) (as_one (as_retF (ae_bl))) (as_nil)) (as_cons (as_set (j := 2) nd rfl (by first | exact Or.inl rfl | exact Or.inr rfl) (ae_int)) (as_cons (as_for (passes_of rfl) rfl rfl (ai_any rfl (ae_callF O_law_items rfl (hr.mono (by decide)) rfl (T.glo 34) hx (aa_cons (ae_var (i := 0)) (aa_nil)))) (pgp_name (i := 3) nd rfl (by first | exact Or.inl rfl | exact Or.inr rfl)) (as_one (as_if (at_val (ae_callF O_law_hole rfl (hr.mono (by decide)) rfl (T.glo 35) hx (aa_cons (ae_var (i := 3)) (aa_nil)))) (as_cons (as_if (at_w (aw_or (at_cmp op_ltA sr_cmp (ae_var (i := 3)) (ae_int) rfl) (aw_or1 (at_cmp op_gtA sr_cmp (ae_var (i := 3)) (ae_var (i := 2)) rfl)))) (as_one (as_retF (ae_bl))) (as_nil)) (as_one (as_set (j := 2) nd rfl (by first | exact Or.inl rfl | exact Or.inr rfl) (ae_callB (call_max2 rfl) sc_max2 rfl (T.free 7) PyProof.Rows.Boot.«max» (aa_cons (ae_var (i := 2)) (aa_cons (ae_op op_addAll sr_addB (ae_var (i := 3)) (ae_int)) (aa_nil))))))) (as_one (as_if (at_not (at_val (ae_callB call_isiB sc_isiB rfl (T.free 21) PyProof.Rows.Boot.«isinstance» (aa_cons (ae_var (i := 3)) (aa_cons (ae_bty (T.free 36) PyProof.Rows.Boot.«str») (aa_nil)))))) (as_one (as_retF (ae_bl))) (as_nil)))))) (as_one (as_retF (ae_bl))))))
theorem b_law_right (T : TX K mg base) (O_law_is_form : OkF K mg base 2 ("_law_is_form", none) ["_law_thing", "_law_shape_here"] [] (A_law_is_form K)) (O_law_shape_of : OkF K mg base 1 ("_law_shape_of", none) ["_law_rows"] [] (A_law_shape_of K)) (O_law_items : OkF K mg base 1 ("_law_items", none) ["_law_rows"] [] (A_law_items K)) (O_law_hole : OkF K mg base 1 ("_law_hole", none) ["_law_item"] [] (A_law_hole K)) (cdv : Value) (A0 : Around) (outer : List Env) (s : Shared) (H : Hp) (E : XK) (hr : Room 2 (A0.deeper (envOfC "_law_right" (defScope s_law_right) s.heap.objs.size (He.fAd K.K ("_law_right", none)) cdv))) (S0 : Store) (H0 : Hp) (Wx : XQ) (hx : Xc ⟨K, S0, H0⟩ (cxD K mg base ["_law_found", "_law_given", "_law_items_here", "_law_rows", "_law_columns", "_law_p", "_law_same", "_law_q", "_law_stretch_here", "_law_alike", "_law_row"] "_law_right" (defScope s_law_right) (He.fAd K.K ("_law_right", none)) cdv A0 outer s H E) Wx) : ASs ⟨K, S0, H0⟩ (cxD K mg base ["_law_found", "_law_given", "_law_items_here", "_law_rows", "_law_columns", "_law_p", "_law_same", "_law_q", "_law_stretch_here", "_law_alike", "_law_row"] "_law_right" (defScope s_law_right) (He.fAd K.K ("_law_right", none)) cdv A0 outer s H E) (defBody s_law_right) (w_law_right K Wx) := by
  have nd := sc_law_right.nd
  unfold w_law_right
  exact as_cons (as_if (at_not (at_val (ae_callF O_law_is_form rfl (hr.mono (by decide)) rfl (T.glo 38) hx (aa_cons (ae_var (i := 0)) (aa_cons (ae_callF O_law_shape_of rfl (hr.mono (by decide)) rfl (T.glo 37) hx (aa_cons (ae_ix rfl hr.u1 (ae_var (i := 1)) (ae_int)) (aa_nil))) (aa_nil)))))) (as_one (as_retF (ae_bl))) (as_nil)) (as_cons (as_set (j := 2) nd rfl (by first | exact Or.inl rfl | exact Or.inr rfl) (ae_callF O_law_items rfl (hr.mono (by decide)) rfl (T.glo 34) hx (aa_cons (ae_var (i := 0)) (aa_nil)))) (as_cons (as_set (j := 3) nd rfl (by first | exact Or.inl rfl | exact Or.inr rfl) (ae_ex fun m => ae_lc (own := [("_law_stretch_here", 8)]) rfl nd rfl (ai_any rfl (ae_var (i := 1))) (blk_of (by kernel_rfl)) (by decide) (fun _ _ _ _ _ => pgp_name (i := 8) nd rfl (by first | exact Or.inl rfl | exact Or.inr rfl)) (fun _ _ _ _ _ => ats_nil) (fun _ _ _ _ _ => ae_callF O_law_items rfl (hr.mono (by decide)) rfl (T.glo 34) xc0 (aa_cons (ae_var (i := 8)) (aa_nil))))) (as_cons (as_setLc (j := 4) (own := [("_law_p", 5)]) rfl nd rfl rfl rfl rfl rfl rfl (ai_range1 rfl (T.free 4) (aa_cons (ae_callB call_lenB sc_lenB rfl (T.free 1) PyProof.Rows.Boot.«len» (aa_cons (ae_var (i := 2)) (aa_nil))) (aa_nil))) (blk_of (by kernel_rfl)) (by decide) (fun _ => rfl) (fun _ _ _ _ _ => pgp_name (i := 5) nd rfl (by first | exact Or.inl rfl | exact Or.inr rfl)) (fun _ _ _ _ _ => ats_nil) (fun _ _ _ _ _ => ae_callTy call_tupB sc_tupB rfl (T.free 17) PyProof.Rows.Boot.«tuple» (aa_cons (ae_ex fun m => ae_lc (own := [("_law_row", 10)]) rfl nd rfl (ai_any rfl (ae_var (i := 3))) (blk_of (by kernel_rfl)) (by decide) (fun _ _ _ _ _ => pgp_name (i := 10) nd rfl (by first | exact Or.inl rfl | exact Or.inr rfl)) (fun _ _ _ _ _ => ats_nil) (fun _ _ _ _ _ => ae_ix rfl hr.u1 (ae_var (i := 10)) (ae_var (i := 5)))) (aa_nil)))) (as_cons (as_for (passes_of rfl) rfl rfl (ai_range1 rfl (T.free 4) (aa_cons (ae_callB call_lenB sc_lenB rfl (T.free 1) PyProof.Rows.Boot.«len» (aa_cons (ae_var (i := 2)) (aa_nil))) (aa_nil))) (pgp_name (i := 5) nd rfl (by first | exact Or.inl rfl | exact Or.inr rfl)) (as_cons (as_set (j := 6) nd rfl (by first | exact Or.inl rfl | exact Or.inr rfl) (ae_cmp (op_eqA hr.units) sr_eq (ae_tcount (ae_ix rfl hr.u1 (ae_var (i := 4)) (ae_var (i := 5))) (ae_ix rfl hr.u1 (ae_ix rfl hr.u1 (ae_var (i := 4)) (ae_var (i := 5))) (ae_int)) ⟨rfl, rfl, rfl, rfl⟩) (ae_callB call_lenB sc_lenB rfl (T.free 1) PyProof.Rows.Boot.«len» (aa_cons (ae_var (i := 3)) (aa_nil))) rfl)) (as_cons (as_if (at_w (aw_or (at_cmp (op_eqA hr.units) sr_eq (ae_callF O_law_hole rfl (hr.mono (by decide)) rfl (T.glo 35) hx (aa_cons (ae_ix rfl hr.u1 (ae_var (i := 2)) (ae_var (i := 5))) (aa_nil))) (ae_var (i := 6)) rfl) (aw_or1 (at_w (aw_and (at_val (ae_var (i := 6))) (aw_and1 (at_cmp (op_neA hr.units) sr_eq (ae_ix rfl hr.u1 (ae_var (i := 2)) (ae_var (i := 5))) (ae_ix rfl hr.u1 (ae_ix rfl hr.u1 (ae_var (i := 4)) (ae_var (i := 5))) (ae_int)) rfl))))))) (as_one (as_retF (ae_bl))) (as_nil)) (as_one (as_for (passes_of rfl) rfl rfl (ai_range1 rfl (T.free 4) (aa_cons (ae_var (i := 5)) (aa_nil))) (pgp_name (i := 7) nd rfl (by first | exact Or.inl rfl | exact Or.inr rfl)) (as_cons (as_set (j := 9) nd rfl (by first | exact Or.inl rfl | exact Or.inr rfl) (ae_cmp (op_eqA hr.units) sr_eq (ae_ix rfl hr.u1 (ae_var (i := 4)) (ae_var (i := 5))) (ae_ix rfl hr.u1 (ae_var (i := 4)) (ae_var (i := 7))) rfl)) (as_one (as_if (at_w (aw_and (at_not (at_val (ae_var (i := 6)))) (aw_and (at_val (ae_callF O_law_hole rfl (hr.mono (by decide)) rfl (T.glo 35) hx (aa_cons (ae_ix rfl hr.u1 (ae_var (i := 2)) (ae_var (i := 7))) (aa_nil)))) (aw_and1 (at_cmp (op_neA hr.units) sr_eq (ae_cmp (op_eqA hr.units) sr_eq (ae_ix rfl hr.u1 (ae_var (i := 2)) (ae_var (i := 5))) (ae_ix rfl hr.u1 (ae_var (i := 2)) (ae_var (i := 7))) rfl) (ae_var (i := 9)) rfl))))) (as_one (as_retF (ae_bl))) (as_nil))))))))) (as_one (as_retF (ae_bl)))))))
theorem b_law (T : TX K mg base) (O_law_begin : OkF K mg base 1 ("_law_begin", none) ["_law_script"] [] (A_law_begin K)) (O_law_next : OkF K mg base 2 ("_law_next", none) ["_law_state", "_law_many"] [] (A_law_next K)) (O_law_pick : OkF K mg base 3 ("_law_pick", none) ["_law_state", "_law_some"] [] (A_law_pick K)) (O_law_shape : OkF K mg base 3 ("_law_shape", none) ["_law_state"] [] (A_law_shape K)) (O_law_pool : OkF K mg base 5 ("_law_pool", none) ["_law_state"] [] (A_law_pool K)) (O_law_stretch : OkF K mg base 4 ("_law_stretch", none) ["_law_state", "_law_shape_here", "_law_pool_here"] [] (A_law_stretch K)) (O_law_reshaped : OkF K mg base 1 ("_law_reshaped", none) ["_law_way", "_law_place", "_law_rows"] [] (A_law_reshaped K)) (O_law_copy : OkF K mg base 1 ("_law_copy", none) ["_law_rows"] [] (A_law_copy K)) (O_law_asked : OkF K mg base 5 ("_law_asked", none) ["_law_given"] [] (A_law_asked K)) (O_law_unlike : OkF K mg base 1 ("_law_unlike", none) ["_law_some"] [] (A_law_unlike K)) (O_law_shape_of : OkF K mg base 1 ("_law_shape_of", none) ["_law_rows"] [] (A_law_shape_of K)) (O_law_right : OkF K mg base 3 ("_law_right", none) ["_law_found", "_law_given"] [] (A_law_right K)) (O_law_own : OkF K mg base 2 ("_law_own", none) ["_law_found"] [] (A_law_own K)) (cdv : Value) (A0 : Around) (outer : List Env) (s : Shared) (H : Hp) (E : XK) (hr : Room 5 (A0.deeper (envOfC "law" (defScope s_law) s.heap.objs.size (He.fAd K.K ("law", none)) cdv))) (S0 : Store) (H0 : Hp) (Wx : XQ) (hx : Xc ⟨K, S0, H0⟩ (cxD K mg base ["_law_script", "_law_state", "_law_spoil", "_law_way", "_law_place", "_law_which", "_law_twice", "_law_many", "_law_shape_here", "_law_pool_here", "_law_given", "_law_handed", "_law_told", "_law_row", "_law_k", "_law_stretch_here", "_law_size"] "law" (defScope s_law) (He.fAd K.K ("law", none)) cdv A0 outer s H E) Wx) : ASs ⟨K, S0, H0⟩ (cxD K mg base ["_law_script", "_law_state", "_law_spoil", "_law_way", "_law_place", "_law_which", "_law_twice", "_law_many", "_law_shape_here", "_law_pool_here", "_law_given", "_law_handed", "_law_told", "_law_row", "_law_k", "_law_stretch_here", "_law_size"] "law" (defScope s_law) (He.fAd K.K ("law", none)) cdv A0 outer s H E) (defBody s_law) (w_law K Wx) := by
  have nd := sc_law.nd
  unfold w_law
  exact as_cons (as_set (j := 1) nd rfl (by first | exact Or.inl rfl | exact Or.inr rfl) (ae_callF O_law_begin rfl (hr.mono (by decide)) rfl (T.glo 39) hx (aa_cons (ae_var (i := 0)) (aa_nil)))) (as_cons (as_set (j := 2) nd rfl (by first | exact Or.inl rfl | exact Or.inr rfl) (ae_callF O_law_next rfl (hr.mono (by decide)) rfl (T.glo 3) hx (aa_cons (ae_var (i := 1)) (aa_cons (ae_int) (aa_nil))))) (as_cons (as_set (j := 3) nd rfl (by first | exact Or.inl rfl | exact Or.inr rfl) (ae_callF O_law_next rfl (hr.mono (by decide)) rfl (T.glo 3) hx (aa_cons (ae_var (i := 1)) (aa_cons (ae_int) (aa_nil))))) (as_cons (as_set (j := 4) nd rfl (by first | exact Or.inl rfl | exact Or.inr rfl) (ae_callF O_law_next rfl (hr.mono (by decide)) rfl (T.glo 3) hx (aa_cons (ae_var (i := 1)) (aa_cons (ae_int) (aa_nil))))) (as_cons (as_set (j := 5) nd rfl (by first | exact Or.inl rfl | exact Or.inr rfl) (ae_callF O_law_next rfl (hr.mono (by decide)) rfl (T.glo 3) hx (aa_cons (ae_var (i := 1)) (aa_cons (ae_int) (aa_nil))))) (as_cons (as_set (j := 6) nd rfl (by first | exact Or.inl rfl | exact Or.inr rfl) (ae_lstB (aa_cons (ae_callF O_law_next rfl (hr.mono (by decide)) rfl (T.glo 3) hx (aa_cons (ae_var (i := 1)) (aa_cons (ae_int) (aa_nil)))) (aa_cons (ae_callF O_law_next rfl (hr.mono (by decide)) rfl (T.glo 3) hx (aa_cons (ae_var (i := 1)) (aa_cons (ae_int) (aa_nil)))) (aa_cons (ae_callF O_law_next rfl (hr.mono (by decide)) rfl (T.glo 3) hx (aa_cons (ae_var (i := 1)) (aa_cons (ae_int) (aa_nil)))) (aa_nil)))))) (as_cons (as_set (j := 7) nd rfl (by first | exact Or.inl rfl | exact Or.inr rfl) (ae_callF O_law_pick rfl (hr.mono (by decide)) rfl (T.glo 5) hx (aa_cons (ae_var (i := 1)) (aa_cons (ae_lstB (aa_cons (ae_int) (aa_cons (ae_int) (aa_cons (ae_int) (aa_cons (ae_int) (aa_cons (ae_int) (aa_cons (ae_int) (aa_cons (ae_int) (aa_cons (ae_int) (aa_nil)))))))))) (aa_nil))))) (as_cons (as_set (j := 8) nd rfl (by first | exact Or.inl rfl | exact Or.inr rfl) (ae_callF O_law_shape rfl (hr.mono (by decide)) rfl (T.glo 40) hx (aa_cons (ae_var (i := 1)) (aa_nil)))) (as_cut (as_if (at_cmp (op_eqA hr.units) sr_eq (ae_var (i := 7)) (ae_int) rfl) (as_one (as_set (j := 8) nd rfl (by first | exact Or.inl rfl | exact Or.inr rfl) (ae_ex fun m => ae_lc (own := [("_law_size", 16)]) rfl nd rfl (ai_any rfl (ae_slB rfl (ae_var (i := 8)) ao_none (ao_some (ae_int)))) (blk_of (by kernel_rfl)) (by decide) (fun _ _ _ _ _ => pgp_name (i := 16) nd rfl (by first | exact Or.inl rfl | exact Or.inr rfl)) (fun _ _ _ _ _ => ats_nil) (fun _ _ _ _ _ => ae_op op_mod (sr_I fun _ _ _ _ => rp_int) (ae_var (i := 16)) (ae_int))))) (as_nil)) (as_cons (as_set (j := 9) nd rfl (by first | exact Or.inl rfl | exact Or.inr rfl) (ae_callF O_law_pool rfl (hr.mono (by decide)) rfl (T.glo 41) hx (aa_cons (ae_var (i := 1)) (aa_nil)))) (as_cons (as_setLc (j := 10) (own := [("_law_k", 14)]) rfl nd rfl rfl rfl rfl rfl rfl (ai_range1 rfl (T.free 4) (aa_cons (ae_var (i := 7)) (aa_nil))) (blk_of (by kernel_rfl)) (by decide) (fun _ => rfl) (fun _ _ _ _ _ => pgp_name (i := 14) nd rfl (by first | exact Or.inl rfl | exact Or.inr rfl)) (fun _ _ _ _ _ => ats_nil) (fun _ _ _ _ _ => ae_callF O_law_stretch rfl (hr.mono (by decide)) rfl (T.glo 42) xc0 (aa_cons (ae_var (i := 1)) (aa_cons (ae_var (i := 8)) (aa_cons (ae_var (i := 9)) (aa_nil)))))) (as_cut (as_if (at_cmp op_ltA sr_cmp (ae_var (i := 2)) (ae_int) rfl) (as_cons (as_sub hr.u1 (ae_var (i := 10)) (ae_op op_mod (sr_I fun _ _ _ _ => rp_int) (ae_var (i := 5)) (ae_var (i := 7))) (ae_callF O_law_reshaped rfl (hr.mono (by decide)) rfl (T.glo 43) hx (aa_cons (ae_var (i := 3)) (aa_cons (ae_var (i := 4)) (aa_cons (ae_ix rfl hr.u1 (ae_var (i := 10)) (ae_op op_mod (sr_I fun _ _ _ _ => rp_int) (ae_var (i := 5)) (ae_var (i := 7)))) (aa_nil)))))) (as_one (as_if (at_w (aw_and (at_cmp (op_eqA hr.units) sr_eq (ae_ix rfl hr.u1 (ae_var (i := 6)) (ae_int)) (ae_int) rfl) (aw_and1 (at_cmp op_gtA sr_cmp (ae_var (i := 7)) (ae_int) rfl)))) (as_one (as_sub hr.u1 (ae_var (i := 10)) (ae_op op_mod (sr_I fun _ _ _ _ => rp_int) (ae_op op_addAll sr_addB (ae_var (i := 5)) (ae_int)) (ae_var (i := 7))) (ae_callF O_law_reshaped rfl (hr.mono (by decide)) rfl (T.glo 43) hx (aa_cons (ae_ix rfl hr.u1 (ae_var (i := 6)) (ae_int)) (aa_cons (ae_ix rfl hr.u1 (ae_var (i := 6)) (ae_int)) (aa_cons (ae_ix rfl hr.u1 (ae_var (i := 10)) (ae_op op_mod (sr_I fun _ _ _ _ => rp_int) (ae_op op_addAll sr_addB (ae_var (i := 5)) (ae_int)) (ae_var (i := 7)))) (aa_nil))))))) (as_nil)))) (as_nil)) (as_cut (as_if (at_w (aw_and (at_cmp (op_eqA hr.units) sr_eq (ae_var (i := 2)) (ae_int) rfl) (aw_and1 (at_cmp (op_eqA hr.units) sr_eq (ae_var (i := 3)) (ae_int) rfl)))) (as_one (as_set (j := 10) nd rfl (by first | exact Or.inl rfl | exact Or.inr rfl) (ae_lstB (aa_nil)))) (as_nil)) (as_cons (as_setLc (j := 11) (own := [("_law_stretch_here", 15)]) rfl nd rfl rfl rfl rfl rfl rfl (ai_any rfl (ae_var (i := 10))) (blk_of (by kernel_rfl)) (by decide) (fun _ => rfl) (fun _ _ _ _ _ => pgp_name (i := 15) nd rfl (by first | exact Or.inl rfl | exact Or.inr rfl)) (fun _ _ _ _ _ => ats_nil) (fun _ _ _ _ _ => ae_callF O_law_copy rfl (hr.mono (by decide)) rfl (T.glo 31) xc0 (aa_cons (ae_var (i := 15)) (aa_nil)))) (as_cons (as_set (j := 12) nd rfl (by first | exact Or.inl rfl | exact Or.inr rfl) (ae_callF O_law_asked rfl (hr.mono (by decide)) rfl (T.glo 44) hx (aa_cons (ae_var (i := 11)) (aa_nil)))) (as_cons (as_if (at_cmp (op_neA hr.units) sr_eq (ae_var (i := 11)) (ae_var (i := 10)) rfl) (as_one (as_retF (ae_bl))) (as_nil)) (as_cons (as_if (at_cmp (op_eqA hr.units) sr_eq (ae_var (i := 10)) (ae_lstB (aa_nil)) rfl) (as_one (as_retF (ae_cmp (op_eqA hr.units) sr_eq (ae_var (i := 12)) (ae_tup (aa_cons (ae_str) (aa_cons (ae_lstB (aa_cons (ae_bl) (aa_cons (ae_bl) (aa_cons (ae_bl) (aa_cons (ae_bl) (aa_cons (ae_bl) (aa_cons (ae_bl) (aa_cons (ae_bl) (aa_nil))))))))) (aa_nil)))) rfl))) (as_nil)) (as_cons (as_set (j := 13) nd rfl (by first | exact Or.inl rfl | exact Or.inr rfl) (ae_callF O_law_unlike rfl (hr.mono (by decide)) rfl (T.glo 45) hx (aa_cons (ae_ex fun m => ae_lc (own := [("_law_stretch_here", 15)]) rfl nd rfl (ai_any rfl (ae_var (i := 10))) (blk_of (by kernel_rfl)) (by decide) (fun _ _ _ _ _ => pgp_name (i := 15) nd rfl (by first | exact Or.inl rfl | exact Or.inr rfl)) (fun _ _ _ _ _ => ats_nil) (fun _ _ _ _ _ => ae_callF O_law_shape_of rfl (hr.mono (by decide)) rfl (T.glo 37) xc0 (aa_cons (ae_var (i := 15)) (aa_nil)))) (aa_nil)))) (as_cons (as_if (at_cmp op_isnotA sr_isN (ae_var (i := 13)) (ae_non) rfl) (as_one (as_retF (ae_cmp (op_eqA hr.units) sr_eq (ae_var (i := 12)) (ae_tup (aa_cons (ae_str) (aa_cons (ae_lstB (aa_cons (ae_bl) (aa_cons (ae_bl) (aa_cons (ae_bl) (aa_cons (ae_bl) (aa_cons (ae_bl) (aa_cons (ae_bl) (aa_cons (ae_bl) (aa_cons (ae_var (i := 13)) (aa_nil)))))))))) (aa_nil)))) rfl))) (as_nil)) (as_cons (as_if (at_w (aw_or (at_cmp (op_neA hr.units) sr_eq (ae_ix rfl hr.u1 (ae_var (i := 12)) (ae_int)) (ae_str) rfl) (aw_or1 (at_not (at_val (ae_callF O_law_right rfl (hr.mono (by decide)) rfl (T.glo 46) hx (aa_cons (ae_ix rfl hr.u1 (ae_var (i := 12)) (ae_int)) (aa_cons (ae_var (i := 10)) (aa_nil))))))))) (as_one (as_retF (ae_bl))) (as_nil)) (as_one (as_retF (ae_and (ae_callF O_law_own rfl (hr.mono (by decide)) rfl (T.glo 47) hx (aa_cons (ae_ix rfl hr.u1 (ae_var (i := 12)) (ae_int)) (aa_nil))) (ae_one (ae_cmp (op_eqA hr.units) sr_eq (ae_var (i := 11)) (ae_var (i := 10)) rfl))))))))))))))))))))))))
end
end N42
set_option Elab.async false
set_option linter.all false
set_option maxRecDepth 100000
set_option maxHeartbeats 4000000
namespace N42
open PySem PySem.Spec PyProof.Rows L2 KR
section
variable {K : Kx} {S S' : Store} {Q : VQ} {E : EQ} {ds : List D} {a : Addr} {ns : List Int} {k l m v : Int}
/-- the state's look-ups -/
theorem ix_next (h : S a = some (.dK (stK ns k l m))) (q : Q (.int k) S) : oIx (.ref a) (.str "next") S Q := ix_d (.inl ⟨stK ns k l m, .inr "next", by simp [asK, h], rfl, rfl⟩) q
theorem ix_left (h : S a = some (.dK (stK ns k l m))) (q : Q (.int l) S) : oIx (.ref a) (.str "left") S Q := ix_d (.inl ⟨stK ns k l m, .inr "left", by simp [asK, h], rfl, rfl⟩) q
theorem ix_mixed (h : S a = some (.dK (stK ns k l m))) (q : Q (.int m) S) : oIx (.ref a) (.str "mixed") S Q := ix_d (.inl ⟨stK ns k l m, .inr "mixed", by simp [asK, h], rfl, rfl⟩) q
theorem ix_cells (h : S a = some (.dK (stK ns k l m))) (q : Q (.lst (ns.map .int)) S) : oIx (.ref a) (.str "cells") S Q := ix_d (.inl ⟨stK ns k l m, .inr "cells", by simp [asK, h], rfl, rfl⟩) q
theorem st_next {Q : Store → Prop} (h : S a = some (.dK (stK ns k l m))) (q : Q (sup S a (.dK (stK ns v l m)))) : oSet (.ref a) (.str "next") (.int v) S Q := set_s h (by show 4 < sizeLine; decide) q
theorem st_left {Q : Store → Prop} (h : S a = some (.dK (stK ns k l m))) (q : Q (sup S a (.dK (stK ns k v m)))) : oSet (.ref a) (.str "left") (.int v) S Q := set_s h (by show 4 < sizeLine; decide) q
theorem p_law_begin (c : SaysB fa fn K.K) (h : A_law_begin K ds S Q E) : w_law_begin K (fun c p _ S' => E c p S') { nx := fun _ S' => Q .non S', rt := Q } (startD ["_law_script", "_law_mixed", "_law_cell"] ds) S := by
  obtain ⟨ns, rfl, q⟩ := h
  unfold w_law_begin
  simp only [s_seq, s_set, s_next, s_cont, s_break, s_expr, s_retN, s_var, s_c, s_op, s_nil, s_cons, s_cb, s_call, s_tup, s_lst, s_sub, s_bm, s_aug, s_asg, s_sl, s_nopart, s_part, s_ret, s_ifs, s_if, s_test, s_not, s_and, s_or, s_andV, s_orV, s_notV, s_oI, s_add, s_mul, s_cmp, s_cmps, s_eq, s_eqs, s_eqb, s_lc, s_for, s_ex, s_pn, s_pc, s_disp, s_r1, s_r2, s_e, s_z, wipeD, s_setdN, s_tcount, s_xget, s_get, s_fld, s_meth, s_make, s_raise, s_raiseI, s_dget2, List.getElem?_cons_zero, List.getElem?_cons_succ, List.set_cons_zero, List.set_cons_succ, Option.some.injEq, exists_eq_left', exists_eq_left, startD, List.map_cons, List.map_nil, List.length_cons, List.length_nil, List.replicate_succ, List.replicate_zero, List.append_nil, List.cons_append, List.nil_append, D.bl.injEq, D.int.injEq, D.str.injEq, D.tupz.injEq, D.ref.injEq, decide_eq_true_eq, decide_eq_false_iff_not, Bool.bne_false, Bool.bne_true, Nat.reduceAdd, Nat.reduceSub, Nat.reduceLeDiff, reduceCtorEq, true_and, and_true, false_implies, true_implies, imp_self, Bool.false_eq_true, forall_const]
  refine wi_l ?_
  simp only [s_seq, s_set, s_next, s_cont, s_break, s_expr, s_retN, s_var, s_c, s_op, s_nil, s_cons, s_cb, s_call, s_tup, s_lst, s_sub, s_bm, s_aug, s_asg, s_sl, s_nopart, s_part, s_ret, s_ifs, s_if, s_test, s_not, s_and, s_or, s_andV, s_orV, s_notV, s_oI, s_add, s_mul, s_cmp, s_cmps, s_eq, s_eqs, s_eqb, s_lc, s_for, s_ex, s_pn, s_pc, s_disp, s_r1, s_r2, s_e, s_z, wipeD, s_setdN, s_tcount, s_xget, s_get, s_fld, s_meth, s_make, s_raise, s_raiseI, s_dget2, List.getElem?_cons_zero, List.getElem?_cons_succ, List.set_cons_zero, List.set_cons_succ, Option.some.injEq, exists_eq_left', exists_eq_left, startD, List.map_cons, List.map_nil, List.length_cons, List.length_nil, List.replicate_succ, List.replicate_zero, List.append_nil, List.cons_append, List.nil_append, D.bl.injEq, D.int.injEq, D.str.injEq, D.tupz.injEq, D.ref.injEq, decide_eq_true_eq, decide_eq_false_iff_not, Bool.bne_false, Bool.bne_true, Nat.reduceAdd, Nat.reduceSub, Nat.reduceLeDiff, reduceCtorEq, true_and, and_true, false_implies, true_implies, imp_self, Bool.false_eq_true, forall_const]
  refine ⟨ns.map .int, rfl, fun hz => ?_⟩
  refine ⟨fun i ρ S' => S' = S ∧ ∃ x y, ρ = [some (.scr ns), some (.int x), y], ⟨rfl, 11, none, rfl⟩, fun i ρ S' _ ⟨e, _⟩ => by rw [e]; rfl, fun i d ρ S' hd ⟨e, x, y, er⟩ => ?_, fun ρ S' ⟨e, x, y, er⟩ => ?_⟩
  · subst e er
    rw [List.getElem?_map] at hd
    obtain ⟨n, hn, rfl⟩ := Option.map_eq_some_iff.mp hd
    refine ⟨_, rfl, ?_⟩
    simp only [s_seq, s_set, s_next, s_cont, s_break, s_expr, s_retN, s_var, s_c, s_op, s_nil, s_cons, s_cb, s_call, s_tup, s_lst, s_sub, s_bm, s_aug, s_asg, s_sl, s_nopart, s_part, s_ret, s_ifs, s_if, s_test, s_not, s_and, s_or, s_andV, s_orV, s_notV, s_oI, s_add, s_mul, s_cmp, s_cmps, s_eq, s_eqs, s_eqb, s_lc, s_for, s_ex, s_pn, s_pc, s_disp, s_r1, s_r2, s_e, s_z, wipeD, s_setdN, s_tcount, s_xget, s_get, s_fld, s_meth, s_make, s_raise, s_raiseI, s_dget2, List.getElem?_cons_zero, List.getElem?_cons_succ, List.set_cons_zero, List.set_cons_succ, Option.some.injEq, exists_eq_left', exists_eq_left, startD, List.map_cons, List.map_nil, List.length_cons, List.length_nil, List.replicate_succ, List.replicate_zero, List.append_nil, List.cons_append, List.nil_append, D.bl.injEq, D.int.injEq, D.str.injEq, D.tupz.injEq, D.ref.injEq, decide_eq_true_eq, decide_eq_false_iff_not, Bool.bne_false, Bool.bne_true, Nat.reduceAdd, Nat.reduceSub, Nat.reduceLeDiff, reduceCtorEq, true_and, and_true, false_implies, true_implies, imp_self, Bool.false_eq_true, forall_const]
    exact ⟨.inr ⟨by decide, by decide⟩, by decide, _, _, rfl⟩
  · subst e er
    simp only [s_seq, s_set, s_next, s_cont, s_break, s_expr, s_retN, s_var, s_c, s_op, s_nil, s_cons, s_cb, s_call, s_tup, s_lst, s_sub, s_bm, s_aug, s_asg, s_sl, s_nopart, s_part, s_ret, s_ifs, s_if, s_test, s_not, s_and, s_or, s_andV, s_orV, s_notV, s_oI, s_add, s_mul, s_cmp, s_cmps, s_eq, s_eqs, s_eqb, s_lc, s_for, s_ex, s_pn, s_pc, s_disp, s_r1, s_r2, s_e, s_z, wipeD, s_setdN, s_tcount, s_xget, s_get, s_fld, s_meth, s_make, s_raise, s_raiseI, s_dget2, List.getElem?_cons_zero, List.getElem?_cons_succ, List.set_cons_zero, List.set_cons_succ, Option.some.injEq, exists_eq_left', exists_eq_left, startD, List.map_cons, List.map_nil, List.length_cons, List.length_nil, List.replicate_succ, List.replicate_zero, List.append_nil, List.cons_append, List.nil_append, D.bl.injEq, D.int.injEq, D.str.injEq, D.tupz.injEq, D.ref.injEq, decide_eq_true_eq, decide_eq_false_iff_not, Bool.bne_false, Bool.bne_true, Nat.reduceAdd, Nat.reduceSub, Nat.reduceLeDiff, reduceCtorEq, true_and, and_true, false_implies, true_implies, imp_self, Bool.false_eq_true, forall_const]
    intro p hp
    refine ⟨_, ns.map .int, rfl, .inl rfl, .inl ?_⟩
    refine ⟨sup_same, [(.inr "cells", .lst (ns.map .int)), (.inr "next", .int 0), (.inr "left", .int 0), (.inr "mixed", .int x)], rfl, by show 4 ≤ 15; decide, ?_⟩
    refine ret_ (q p _ hp ⟨_, ⟨ns, 0, 0, x, Int.le_refl _, rfl⟩, ?_⟩)
    rw [sup_sup]
    rfl
theorem p_law_more (c : SaysB fa fn K.K) (h : A_law_more K ds S Q E) : w_law_more K (fun c p _ S' => E c p S') { nx := fun _ S' => Q .non S', rt := Q } (startD ["_law_state", "_law_k", "_law_cell", "_law_one", "_law_two", "_law_three"] ds) S := by
  obtain ⟨a, ns, k, l, m, rfl, hk, hS, q⟩ := h
  unfold w_law_more
  have hS2 : sup S a (.dK (stK ns (k + 1) l m)) a = some (.dK (stK ns (k + 1) l m)) := sup_same
  simp only [s_seq, s_set, s_next, s_cont, s_break, s_expr, s_retN, s_var, s_c, s_op, s_nil, s_cons, s_cb, s_call, s_tup, s_lst, s_sub, s_bm, s_aug, s_asg, s_sl, s_nopart, s_part, s_ret, s_ifs, s_if, s_test, s_not, s_and, s_or, s_andV, s_orV, s_notV, s_oI, s_add, s_mul, s_cmp, s_cmps, s_eq, s_eqs, s_eqb, s_lc, s_for, s_ex, s_pn, s_pc, s_disp, s_r1, s_r2, s_e, s_z, wipeD, s_setdN, s_tcount, s_xget, s_get, s_fld, s_meth, s_make, s_raise, s_raiseI, s_dget2, List.getElem?_cons_zero, List.getElem?_cons_succ, List.set_cons_zero, List.set_cons_succ, Option.some.injEq, exists_eq_left', exists_eq_left, startD, List.map_cons, List.map_nil, List.length_cons, List.length_nil, List.replicate_succ, List.replicate_zero, List.append_nil, List.cons_append, List.nil_append, D.bl.injEq, D.int.injEq, D.str.injEq, D.tupz.injEq, D.ref.injEq, decide_eq_true_eq, decide_eq_false_iff_not, Bool.bne_false, Bool.bne_true, Nat.reduceAdd, Nat.reduceSub, Nat.reduceLeDiff, reduceCtorEq, true_and, and_true, false_implies, true_implies, imp_self, Bool.false_eq_true, forall_const]
  refine ix_next hS ?_
  simp only [s_seq, s_set, s_next, s_cont, s_break, s_expr, s_retN, s_var, s_c, s_op, s_nil, s_cons, s_cb, s_call, s_tup, s_lst, s_sub, s_bm, s_aug, s_asg, s_sl, s_nopart, s_part, s_ret, s_ifs, s_if, s_test, s_not, s_and, s_or, s_andV, s_orV, s_notV, s_oI, s_add, s_mul, s_cmp, s_cmps, s_eq, s_eqs, s_eqb, s_lc, s_for, s_ex, s_pn, s_pc, s_disp, s_r1, s_r2, s_e, s_z, wipeD, s_setdN, s_tcount, s_xget, s_get, s_fld, s_meth, s_make, s_raise, s_raiseI, s_dget2, List.getElem?_cons_zero, List.getElem?_cons_succ, List.set_cons_zero, List.set_cons_succ, Option.some.injEq, exists_eq_left', exists_eq_left, startD, List.map_cons, List.map_nil, List.length_cons, List.length_nil, List.replicate_succ, List.replicate_zero, List.append_nil, List.cons_append, List.nil_append, D.bl.injEq, D.int.injEq, D.str.injEq, D.tupz.injEq, D.ref.injEq, decide_eq_true_eq, decide_eq_false_iff_not, Bool.bne_false, Bool.bne_true, Nat.reduceAdd, Nat.reduceSub, Nat.reduceLeDiff, reduceCtorEq, true_and, and_true, false_implies, true_implies, imp_self, Bool.false_eq_true, forall_const]
  refine st_next hS (ix_mixed hS2 ?_)
  simp only [s_seq, s_set, s_next, s_cont, s_break, s_expr, s_retN, s_var, s_c, s_op, s_nil, s_cons, s_cb, s_call, s_tup, s_lst, s_sub, s_bm, s_aug, s_asg, s_sl, s_nopart, s_part, s_ret, s_ifs, s_if, s_test, s_not, s_and, s_or, s_andV, s_orV, s_notV, s_oI, s_add, s_mul, s_cmp, s_cmps, s_eq, s_eqs, s_eqb, s_lc, s_for, s_ex, s_pn, s_pc, s_disp, s_r1, s_r2, s_e, s_z, wipeD, s_setdN, s_tcount, s_xget, s_get, s_fld, s_meth, s_make, s_raise, s_raiseI, s_dget2, List.getElem?_cons_zero, List.getElem?_cons_succ, List.set_cons_zero, List.set_cons_succ, Option.some.injEq, exists_eq_left', exists_eq_left, startD, List.map_cons, List.map_nil, List.length_cons, List.length_nil, List.replicate_succ, List.replicate_zero, List.append_nil, List.cons_append, List.nil_append, D.bl.injEq, D.int.injEq, D.str.injEq, D.tupz.injEq, D.ref.injEq, decide_eq_true_eq, decide_eq_false_iff_not, Bool.bne_false, Bool.bne_true, Nat.reduceAdd, Nat.reduceSub, Nat.reduceLeDiff, reduceCtorEq, true_and, and_true, false_implies, true_implies, imp_self, Bool.false_eq_true, forall_const]
  refine ⟨.inl ⟨by decide, by decide⟩, ix_cells hS2 (.inl (len_l rfl ?_))⟩
  simp only [s_seq, s_set, s_next, s_cont, s_break, s_expr, s_retN, s_var, s_c, s_op, s_nil, s_cons, s_cb, s_call, s_tup, s_lst, s_sub, s_bm, s_aug, s_asg, s_sl, s_nopart, s_part, s_ret, s_ifs, s_if, s_test, s_not, s_and, s_or, s_andV, s_orV, s_notV, s_oI, s_add, s_mul, s_cmp, s_cmps, s_eq, s_eqs, s_eqb, s_lc, s_for, s_ex, s_pn, s_pc, s_disp, s_r1, s_r2, s_e, s_z, wipeD, s_setdN, s_tcount, s_xget, s_get, s_fld, s_meth, s_make, s_raise, s_raiseI, s_dget2, List.getElem?_cons_zero, List.getElem?_cons_succ, List.set_cons_zero, List.set_cons_succ, Option.some.injEq, exists_eq_left', exists_eq_left, startD, List.map_cons, List.map_nil, List.length_cons, List.length_nil, List.replicate_succ, List.replicate_zero, List.append_nil, List.cons_append, List.nil_append, D.bl.injEq, D.int.injEq, D.str.injEq, D.tupz.injEq, D.ref.injEq, decide_eq_true_eq, decide_eq_false_iff_not, Bool.bne_false, Bool.bne_true, Nat.reduceAdd, Nat.reduceSub, Nat.reduceLeDiff, reduceCtorEq, true_and, and_true, false_implies, true_implies, imp_self, Bool.false_eq_true, forall_const]
  have pw : CPow 10 18 := ⟨by decide, by decide, by decide⟩
  have fin : ∀ v : Int, ∃ S2, Sub S2 (sup S a (.dK (stK ns (k + 1) l m))) ∧ (Q (.int v) S2 ∨ frz1 (.int v) S2 Q ∨ frzD (.int v) S2 Q) := fun v => ret_ (q v)
  have cr : ∀ {x : Int} {y : Int}, (-(2 ^ 64) < y ∧ y < 2 ^ 64) → CMul x y := fun h => .inr h
  have cl : ∀ {x : Int} {y : Int}, (-(2 ^ 64) < x ∧ x < 2 ^ 64) → CMul x y := fun h => .inl h
  refine ⟨fun hb => ix_cells hS2 ?_, fun hb => ?_⟩
  · have hl : k.toNat < ns.length := by
      rw [List.length_map] at hb
      omega
    refine ix_l rfl (d := .int (ns.getD k.toNat 0)) ?_ ?_
    · have e : k = ((k.toNat : Nat) : Int) := by omega
      rw [e]
      refine atI_nat ?_
      rw [List.getElem?_map, Int.toNat_natCast, List.getElem?_eq_getElem hl]
      simp [List.getD, List.getElem?_eq_getElem hl]
    simp only [s_seq, s_set, s_next, s_cont, s_break, s_expr, s_retN, s_var, s_c, s_op, s_nil, s_cons, s_cb, s_call, s_tup, s_lst, s_sub, s_bm, s_aug, s_asg, s_sl, s_nopart, s_part, s_ret, s_ifs, s_if, s_test, s_not, s_and, s_or, s_andV, s_orV, s_notV, s_oI, s_add, s_mul, s_cmp, s_cmps, s_eq, s_eqs, s_eqb, s_lc, s_for, s_ex, s_pn, s_pc, s_disp, s_r1, s_r2, s_e, s_z, wipeD, s_setdN, s_tcount, s_xget, s_get, s_fld, s_meth, s_make, s_raise, s_raiseI, s_dget2, List.getElem?_cons_zero, List.getElem?_cons_succ, List.set_cons_zero, List.set_cons_succ, Option.some.injEq, exists_eq_left', exists_eq_left, startD, List.map_cons, List.map_nil, List.length_cons, List.length_nil, List.replicate_succ, List.replicate_zero, List.append_nil, List.cons_append, List.nil_append, D.bl.injEq, D.int.injEq, D.str.injEq, D.tupz.injEq, D.ref.injEq, decide_eq_true_eq, decide_eq_false_iff_not, Bool.bne_false, Bool.bne_true, Nat.reduceAdd, Nat.reduceSub, Nat.reduceLeDiff, reduceCtorEq, true_and, and_true, false_implies, true_implies, imp_self, Bool.false_eq_true, forall_const]
    exact ⟨pw, fun _ => ⟨pw, fin _⟩, fun _ => ⟨cr (by decide), cl (by decide), by decide, cl (by decide), cl ⟨by omega, by omega⟩, by decide, cl ⟨by omega, by omega⟩, by decide, cr (by decide), cr (by decide), fin _⟩⟩
  · exact ⟨pw, fun _ => ⟨pw, fin _⟩, fun _ => ⟨cr (by decide), cl (by decide), by decide, cl (by decide), cl ⟨by omega, by omega⟩, by decide, cl ⟨by omega, by omega⟩, by decide, cr (by decide), cr (by decide), fin _⟩⟩
theorem p_law_next (c : SaysB fa fn K.K) (h : A_law_next K ds S Q E) : w_law_next K (fun c p _ S' => E c p S') { nx := fun _ S' => Q .non S', rt := Q } (startD ["_law_state", "_law_many", "_law_found"] ds) S := by
  obtain ⟨a, n, rfl, ⟨_, ⟨ns, k, l, m, hk, rfl⟩, hS⟩, hn, hn2, q⟩ := h
  unfold w_law_next
  simp only [s_seq, s_set, s_next, s_cont, s_break, s_expr, s_retN, s_var, s_c, s_op, s_nil, s_cons, s_cb, s_call, s_tup, s_lst, s_sub, s_bm, s_aug, s_asg, s_sl, s_nopart, s_part, s_ret, s_ifs, s_if, s_test, s_not, s_and, s_or, s_andV, s_orV, s_notV, s_oI, s_add, s_mul, s_cmp, s_cmps, s_eq, s_eqs, s_eqb, s_lc, s_for, s_ex, s_pn, s_pc, s_disp, s_r1, s_r2, s_e, s_z, wipeD, s_setdN, s_tcount, s_xget, s_get, s_fld, s_meth, s_make, s_raise, s_raiseI, s_dget2, List.getElem?_cons_zero, List.getElem?_cons_succ, List.set_cons_zero, List.set_cons_succ, Option.some.injEq, exists_eq_left', exists_eq_left, startD, List.map_cons, List.map_nil, List.length_cons, List.length_nil, List.replicate_succ, List.replicate_zero, List.append_nil, List.cons_append, List.nil_append, D.bl.injEq, D.int.injEq, D.str.injEq, D.tupz.injEq, D.ref.injEq, decide_eq_true_eq, decide_eq_false_iff_not, Bool.bne_false, Bool.bne_true, Nat.reduceAdd, Nat.reduceSub, Nat.reduceLeDiff, reduceCtorEq, true_and, and_true, false_implies, true_implies, imp_self, Bool.false_eq_true, forall_const]
  refine ix_left hS ?_
  simp only [s_seq, s_set, s_next, s_cont, s_break, s_expr, s_retN, s_var, s_c, s_op, s_nil, s_cons, s_cb, s_call, s_tup, s_lst, s_sub, s_bm, s_aug, s_asg, s_sl, s_nopart, s_part, s_ret, s_ifs, s_if, s_test, s_not, s_and, s_or, s_andV, s_orV, s_notV, s_oI, s_add, s_mul, s_cmp, s_cmps, s_eq, s_eqs, s_eqb, s_lc, s_for, s_ex, s_pn, s_pc, s_disp, s_r1, s_r2, s_e, s_z, wipeD, s_setdN, s_tcount, s_xget, s_get, s_fld, s_meth, s_make, s_raise, s_raiseI, s_dget2, List.getElem?_cons_zero, List.getElem?_cons_succ, List.set_cons_zero, List.set_cons_succ, Option.some.injEq, exists_eq_left', exists_eq_left, startD, List.map_cons, List.map_nil, List.length_cons, List.length_nil, List.replicate_succ, List.replicate_zero, List.append_nil, List.cons_append, List.nil_append, D.bl.injEq, D.int.injEq, D.str.injEq, D.tupz.injEq, D.ref.injEq, decide_eq_true_eq, decide_eq_false_iff_not, Bool.bne_false, Bool.bne_true, Nat.reduceAdd, Nat.reduceSub, Nat.reduceLeDiff, reduceCtorEq, true_and, and_true, false_implies, true_implies, imp_self, Bool.false_eq_true, forall_const]
  have go : ∀ (ns : List Int) (k l m : Int) (S1 : Store), 0 ≤ k → S1 a = some (.dK (stK ns k l m)) → (∀ kvs, sup S1 a kvs = sup S a kvs) →
      oIx (.ref a) (.str "left") S1 fun x S2 => oMod x (.int n) S2 fun d S3 => oIx (.ref a) (.str "left") S3 fun x S4 => oDiv x (.int n) S4 fun v S5 => oSet (.ref a) (.str "left") v S5 fun S6 => ∃ S7, Sub S7 S6 ∧ (Q d S7 ∨ frz1 d S7 Q ∨ frzD d S7 Q) := fun ns k l m S1 hk hS1 he => by
    refine ix_left hS1 ?_
    refine ⟨hn, ix_left hS1 ⟨⟨hn, hn2⟩, st_left hS1 (ret_ (q _ _ (Int.emod_nonneg _ (by omega)) (Int.emod_lt_of_pos _ hn) ⟨_, ⟨ns, k, _, m, hk, rfl⟩, he _⟩))⟩⟩
  refine ⟨fun _ => ?_, fun _ => go ns k l m S hk hS fun _ => rfl⟩
  refine ⟨a, ns, k, l, m, rfl, hk, hS, fun v => ?_⟩
  refine st_left (k := k + 1) (l := l) sup_same ?_
  rw [sup_sup]
  exact go ns (k + 1) v m _ (by omega) sup_same fun _ => sup_sup
theorem p_law_pick (c : SaysB fa fn K.K) (h : A_law_pick K ds S Q E) : w_law_pick K (fun c p _ S' => E c p S') { nx := fun _ S' => Q .non S', rt := Q } (startD ["_law_state", "_law_some"] ds) S := by
  obtain ⟨a, hs, ⟨xs, rfl, h0, h1, q⟩ | ⟨z, rfl, h0, h1, hz0, q⟩⟩ := h
  · unfold w_law_pick
    simp only [s_seq, s_set, s_next, s_cont, s_break, s_expr, s_retN, s_var, s_c, s_op, s_nil, s_cons, s_cb, s_call, s_tup, s_lst, s_sub, s_bm, s_aug, s_asg, s_sl, s_nopart, s_part, s_ret, s_ifs, s_if, s_test, s_not, s_and, s_or, s_andV, s_orV, s_notV, s_oI, s_add, s_mul, s_cmp, s_cmps, s_eq, s_eqs, s_eqb, s_lc, s_for, s_ex, s_pn, s_pc, s_disp, s_r1, s_r2, s_e, s_z, wipeD, s_setdN, s_tcount, s_xget, s_get, s_fld, s_meth, s_make, s_raise, s_raiseI, s_dget2, List.getElem?_cons_zero, List.getElem?_cons_succ, List.set_cons_zero, List.set_cons_succ, Option.some.injEq, exists_eq_left', exists_eq_left, startD, List.map_cons, List.map_nil, List.length_cons, List.length_nil, List.replicate_succ, List.replicate_zero, List.append_nil, List.cons_append, List.nil_append, D.bl.injEq, D.int.injEq, D.str.injEq, D.tupz.injEq, D.ref.injEq, decide_eq_true_eq, decide_eq_false_iff_not, Bool.bne_false, Bool.bne_true, Nat.reduceAdd, Nat.reduceSub, Nat.reduceLeDiff, reduceCtorEq, true_and, and_true, false_implies, true_implies, imp_self, Bool.false_eq_true, forall_const]
    refine .inl (len_l rfl ?_)
    refine ⟨a, (xs.length : Int), rfl, hs, by omega, by omega, fun r S' r0 r1 dr => ?_⟩
    have hl : r.toNat < xs.length := by omega
    exact ix_l rfl (atI_in r0 hl) (ret_ (q _ _ (List.getElem_mem hl) dr))
  · unfold w_law_pick
    simp only [s_seq, s_set, s_next, s_cont, s_break, s_expr, s_retN, s_var, s_c, s_op, s_nil, s_cons, s_cb, s_call, s_tup, s_lst, s_sub, s_bm, s_aug, s_asg, s_sl, s_nopart, s_part, s_ret, s_ifs, s_if, s_test, s_not, s_and, s_or, s_andV, s_orV, s_notV, s_oI, s_add, s_mul, s_cmp, s_cmps, s_eq, s_eqs, s_eqb, s_lc, s_for, s_ex, s_pn, s_pc, s_disp, s_r1, s_r2, s_e, s_z, wipeD, s_setdN, s_tcount, s_xget, s_get, s_fld, s_meth, s_make, s_raise, s_raiseI, s_dget2, List.getElem?_cons_zero, List.getElem?_cons_succ, List.set_cons_zero, List.set_cons_succ, Option.some.injEq, exists_eq_left', exists_eq_left, startD, List.map_cons, List.map_nil, List.length_cons, List.length_nil, List.replicate_succ, List.replicate_zero, List.append_nil, List.cons_append, List.nil_append, D.bl.injEq, D.int.injEq, D.str.injEq, D.tupz.injEq, D.ref.injEq, decide_eq_true_eq, decide_eq_false_iff_not, Bool.bne_false, Bool.bne_true, Nat.reduceAdd, Nat.reduceSub, Nat.reduceLeDiff, reduceCtorEq, true_and, and_true, false_implies, true_implies, imp_self, Bool.false_eq_true, forall_const]
    have hz : z.length ≤ sizeLine := by rw [sizeLine_eq]; omega
    refine .inl (len_s hz ?_)
    refine ⟨a, (z.length : Int), rfl, hs, by omega, by omega, fun r S' r0 r1 dr => ?_⟩
    have hl : r.toNat < z.cps.toList.length := by
      have : z.length = z.cps.size := rfl
      simp
      omega
    have hc : z.cps.toList[r.toNat] < 1114112 := by
      have := Array.all_eq_true'.mp hz0 _ (Array.mem_toList_iff.mp (List.getElem_mem hl))
      exact of_decide_eq_true this
    exact ix_s hz (atI_in r0 hl) (ret_ (q _ _ hc dr))
theorem p_law_shape (c : SaysB fa fn K.K) (h : A_law_shape K ds S Q E) : w_law_shape K (fun c p _ S' => E c p S') { nx := fun _ S' => Q .non S', rt := Q } (startD ["_law_state", "_law_way", "_law_k"] ds) S := by
  obtain ⟨a, rfl, hs, q⟩ := h
  unfold w_law_shape
  simp only [s_seq, s_set, s_next, s_cont, s_break, s_expr, s_retN, s_var, s_c, s_op, s_nil, s_cons, s_cb, s_call, s_tup, s_lst, s_sub, s_bm, s_aug, s_asg, s_sl, s_nopart, s_part, s_ret, s_ifs, s_if, s_test, s_not, s_and, s_or, s_andV, s_orV, s_notV, s_oI, s_add, s_mul, s_cmp, s_cmps, s_eq, s_eqs, s_eqb, s_lc, s_for, s_ex, s_pn, s_pc, s_disp, s_r1, s_r2, s_e, s_z, wipeD, s_setdN, s_tcount, s_xget, s_get, s_fld, s_meth, s_make, s_raise, s_raiseI, s_dget2, List.getElem?_cons_zero, List.getElem?_cons_succ, List.set_cons_zero, List.set_cons_succ, Option.some.injEq, exists_eq_left', exists_eq_left, startD, List.map_cons, List.map_nil, List.length_cons, List.length_nil, List.replicate_succ, List.replicate_zero, List.append_nil, List.cons_append, List.nil_append, D.bl.injEq, D.int.injEq, D.str.injEq, D.tupz.injEq, D.ref.injEq, decide_eq_true_eq, decide_eq_false_iff_not, Bool.bne_false, Bool.bne_true, Nat.reduceAdd, Nat.reduceSub, Nat.reduceLeDiff, reduceCtorEq, true_and, and_true, false_implies, true_implies, imp_self, Bool.false_eq_true, forall_const]
  refine ⟨a, 16, rfl, hs, by decide, by decide, fun r S' r0 r1 dr => ?_⟩
  simp only [s_seq, s_set, s_next, s_cont, s_break, s_expr, s_retN, s_var, s_c, s_op, s_nil, s_cons, s_cb, s_call, s_tup, s_lst, s_sub, s_bm, s_aug, s_asg, s_sl, s_nopart, s_part, s_ret, s_ifs, s_if, s_test, s_not, s_and, s_or, s_andV, s_orV, s_notV, s_oI, s_add, s_mul, s_cmp, s_cmps, s_eq, s_eqs, s_eqb, s_lc, s_for, s_ex, s_pn, s_pc, s_disp, s_r1, s_r2, s_e, s_z, wipeD, s_setdN, s_tcount, s_xget, s_get, s_fld, s_meth, s_make, s_raise, s_raiseI, s_dget2, List.getElem?_cons_zero, List.getElem?_cons_succ, List.set_cons_zero, List.set_cons_succ, Option.some.injEq, exists_eq_left', exists_eq_left, startD, List.map_cons, List.map_nil, List.length_cons, List.length_nil, List.replicate_succ, List.replicate_zero, List.append_nil, List.cons_append, List.nil_append, D.bl.injEq, D.int.injEq, D.str.injEq, D.tupz.injEq, D.ref.injEq, decide_eq_true_eq, decide_eq_false_iff_not, Bool.bne_false, Bool.bne_true, Nat.reduceAdd, Nat.reduceSub, Nat.reduceLeDiff, reduceCtorEq, true_and, and_true, false_implies, true_implies, imp_self, Bool.false_eq_true, forall_const]
  refine ⟨fun _ => ⟨by decide, .inl ?_⟩, fun _ => ⟨fun _ => ⟨by decide, .inl (ret_ (q [30, 0, 30] _ (by decide) (by decide) dr))⟩, fun _ => ?_⟩⟩
  · unfold oMulB
    refine ⟨⟨by decide, by decide, by decide⟩, .inl (ret_ ?_)⟩
    exact q (List.replicate 60 1) _ (by decide) (by decide) dr
  refine ⟨false, a, 5, rfl, dr.ds, by decide, by decide, fun r2 S2 h20 h21 dr2 => ⟨r2, rfl, by omega, by omega, ?_⟩⟩
  refine lc_draw (fun d => ∃ n : Nat, d = .int (n : Int) ∧ n ≤ 30) dr2.ds (fun _ => trivial) (by rw [rangeD_length, sizeLine_eq]; omega) (fun d hd S1 hs1 => ⟨_, rfl, fun Q' hQ => ?_⟩) fun xs S3 hl hT dr3 => ?_
  · simp only [s_seq, s_set, s_next, s_cont, s_break, s_expr, s_retN, s_var, s_c, s_op, s_nil, s_cons, s_cb, s_call, s_tup, s_lst, s_sub, s_bm, s_aug, s_asg, s_sl, s_nopart, s_part, s_ret, s_ifs, s_if, s_test, s_not, s_and, s_or, s_andV, s_orV, s_notV, s_oI, s_add, s_mul, s_cmp, s_cmps, s_eq, s_eqs, s_eqb, s_lc, s_for, s_ex, s_pn, s_pc, s_disp, s_r1, s_r2, s_e, s_z, wipeD, s_setdN, s_tcount, s_xget, s_get, s_fld, s_meth, s_make, s_raise, s_raiseI, s_dget2, List.getElem?_cons_zero, List.getElem?_cons_succ, List.set_cons_zero, List.set_cons_succ, Option.some.injEq, exists_eq_left', exists_eq_left, startD, List.map_cons, List.map_nil, List.length_cons, List.length_nil, List.replicate_succ, List.replicate_zero, List.append_nil, List.cons_append, List.nil_append, D.bl.injEq, D.int.injEq, D.str.injEq, D.tupz.injEq, D.ref.injEq, decide_eq_true_eq, decide_eq_false_iff_not, Bool.bne_false, Bool.bne_true, Nat.reduceAdd, Nat.reduceSub, Nat.reduceLeDiff, reduceCtorEq, true_and, and_true, false_implies, true_implies, imp_self, Bool.false_eq_true, forall_const]
    refine ⟨a, 5, rfl, hs1, by decide, by decide, fun r3 S4 h30 h31 dr4 => ?_⟩
    obtain ⟨n3, rfl⟩ := Int.eq_ofNat_of_zero_le h30
    exact hQ _ _ ⟨n3, rfl, by omega⟩ dr4
  · obtain ⟨ns, e⟩ := list_of (α := Nat) (f := fun (n : Nat) => D.int (n : Int)) (xs := xs) fun x hx => (hT x hx).imp fun n h => h.1
    subst e
    refine ret_ (q ns _ ?_ (fun n hn => ?_) ((dr.trans dr2).trans dr3))
    · rw [List.length_map, rangeD_length] at hl
      omega
    · obtain ⟨n', e, h⟩ := hT _ (List.mem_map_of_mem hn)
      cases e
      exact h
theorem sOk1 {c : Nat} (h : c < 1114112) : sOk ⟨#[c]⟩ := by
  show PyData.strOk ⟨#[c]⟩ = true
  unfold PyData.strOk
  simpa using h
theorem sOk_app {x y : Str} (h1 : sOk x) (h2 : sOk y) : sOk (x ++ y) := by
  unfold sOk PyData.strOk at *
  show (x.cps ++ y.cps).all _ = true
  rw [Array.all_append, h1, h2]
  rfl
theorem chars (xs : List D) (h : ∀ x ∈ xs, ∃ c : Nat, x = .str ⟨#[c]⟩ ∧ c < 1114112) (hl : xs.length ≤ 20) : ∃ ys : List Str, xs = ys.map .str ∧ (∀ y ∈ ys, sOk y) ∧ (ys.map (·.length)).sum ≤ 1000000 := by
  obtain ⟨cs, e⟩ := list_of (α := Nat) (f := fun c => D.str ⟨#[c]⟩) fun x hx => (h x hx).imp fun _ z => z.1
  refine ⟨cs.map fun c => ⟨#[c]⟩, by rw [e, List.map_map]; rfl, fun y hy => ?_, ?_⟩
  · obtain ⟨c, hc, rfl⟩ := List.mem_map.mp hy
    obtain ⟨c', e', hc'⟩ := h (.str ⟨#[c]⟩) (by rw [e]; exact List.mem_map_of_mem (f := fun c => D.str ⟨#[c]⟩) hc)
    cases e'
    show PyData.strOk ⟨#[c]⟩ = true
    unfold PyData.strOk
    simpa using hc'
  rw [sum_one (fun x hx => ?_)]
  · rw [e, List.length_map] at hl
    rw [List.length_map]
    omega
  · obtain ⟨c, _, rfl⟩ := List.mem_map.mp hx
    rfl
/-- ''.join of drawn signs -/
theorem signs {S : Store} {a : Addr} {Q : VQ} {ρ : AR} {we : WE} {n : Int} {v : Nat} (hs : DS S a) (h0 : 0 ≤ n) (hn : n ≤ 20)
    (h : ∀ d S1, DS S1 a → ∀ Q' : VQ, (∀ c S2, c < 1114112 → Dr a S1 S2 → Q' (.str ⟨#[c]⟩) S2) → we ((wipeD ρ [v]).set v (some d)) S1 Q')
    (q : ∀ xs S', xs.length ≤ 20 → (∀ x ∈ xs, ∃ c : Nat, x = D.str ⟨#[c]⟩ ∧ c < 1114112) → Dr a S S' → Q (.lst xs) S') : Lc false (rangeD 0 n.toNat) (fun _ => True) (.name v) wtYes we [v] ρ S Q := by
  refine lc_draw (fun x => ∃ c : Nat, x = .str ⟨#[c]⟩ ∧ c < 1114112) hs (fun _ => trivial) (by rw [rangeD_length, sizeLine_eq]; omega) (fun d _ S1 hs1 => ⟨_, rfl, fun Q' hQ => h d S1 hs1 Q' fun c S2 hc dr => hQ _ _ ⟨c, rfl, hc⟩ dr⟩) fun xs S' hl hT dr => q xs S' ?_ hT dr
  rw [rangeD_length] at hl
  omega
theorem p_law_word (c : SaysB fa fn K.K) (h : A_law_word K ds S Q E) : w_law_word K (fun c p _ S' => E c p S') { nx := fun _ S' => Q .non S', rt := Q } (startD ["_law_state", "_law_letters", "_law_figures", "_law_sort", "_law_many", "_law_k"] ds) S := by
  obtain ⟨a, rfl, hs, q⟩ := h
  unfold w_law_word
  simp only [s_seq, s_set, s_next, s_cont, s_break, s_expr, s_retN, s_var, s_c, s_op, s_nil, s_cons, s_cb, s_call, s_tup, s_lst, s_sub, s_bm, s_aug, s_asg, s_sl, s_nopart, s_part, s_ret, s_ifs, s_if, s_test, s_not, s_and, s_or, s_andV, s_orV, s_notV, s_oI, s_add, s_mul, s_cmp, s_cmps, s_eq, s_eqs, s_eqb, s_lc, s_for, s_ex, s_pn, s_pc, s_disp, s_r1, s_r2, s_e, s_z, wipeD, s_setdN, s_tcount, s_xget, s_get, s_fld, s_meth, s_make, s_raise, s_raiseI, s_dget2, List.getElem?_cons_zero, List.getElem?_cons_succ, List.set_cons_zero, List.set_cons_succ, Option.some.injEq, exists_eq_left', exists_eq_left, startD, List.map_cons, List.map_nil, List.length_cons, List.length_nil, List.replicate_succ, List.replicate_zero, List.append_nil, List.cons_append, List.nil_append, D.bl.injEq, D.int.injEq, D.str.injEq, D.tupz.injEq, D.ref.injEq, decide_eq_true_eq, decide_eq_false_iff_not, Bool.bne_false, Bool.bne_true, Nat.reduceAdd, Nat.reduceSub, Nat.reduceLeDiff, reduceCtorEq, true_and, and_true, false_implies, true_implies, imp_self, Bool.false_eq_true, forall_const]
  refine ⟨a, 6, rfl, hs, by decide, by decide, fun r S1 r0 r1 dr1 => ?_⟩
  simp only [s_seq, s_set, s_next, s_cont, s_break, s_expr, s_retN, s_var, s_c, s_op, s_nil, s_cons, s_cb, s_call, s_tup, s_lst, s_sub, s_bm, s_aug, s_asg, s_sl, s_nopart, s_part, s_ret, s_ifs, s_if, s_test, s_not, s_and, s_or, s_andV, s_orV, s_notV, s_oI, s_add, s_mul, s_cmp, s_cmps, s_eq, s_eqs, s_eqb, s_lc, s_for, s_ex, s_pn, s_pc, s_disp, s_r1, s_r2, s_e, s_z, wipeD, s_setdN, s_tcount, s_xget, s_get, s_fld, s_meth, s_make, s_raise, s_raiseI, s_dget2, List.getElem?_cons_zero, List.getElem?_cons_succ, List.set_cons_zero, List.set_cons_succ, Option.some.injEq, exists_eq_left', exists_eq_left, startD, List.map_cons, List.map_nil, List.length_cons, List.length_nil, List.replicate_succ, List.replicate_zero, List.append_nil, List.cons_append, List.nil_append, D.bl.injEq, D.int.injEq, D.str.injEq, D.tupz.injEq, D.ref.injEq, decide_eq_true_eq, decide_eq_false_iff_not, Bool.bne_false, Bool.bne_true, Nat.reduceAdd, Nat.reduceSub, Nat.reduceLeDiff, reduceCtorEq, true_and, and_true, false_implies, true_implies, imp_self, Bool.false_eq_true, forall_const]
  refine ⟨by decide, .inl ⟨a, 4, rfl, dr1.ds, by decide, by decide, fun i S2 i0 i1 dr2 => ?_⟩⟩
  have dr := dr1.trans dr2
  have hm : ∃ n : Nat, n ≤ 19 ∧ atI [D.int 0, D.int 1, D.int 2, D.int 19] i = some (.int (n : Int)) := by
    rcases (by omega : i = 0 ∨ i = 1 ∨ i = 2 ∨ i = 3) with rfl | rfl | rfl | rfl
    · exact ⟨0, by decide, rfl⟩
    · exact ⟨1, by decide, rfl⟩
    · exact ⟨2, by decide, rfl⟩
    · exact ⟨19, by decide, rfl⟩
  obtain ⟨n, hn, hm⟩ := hm
  refine ix_l rfl hm ?_
  simp only [s_seq, s_set, s_next, s_cont, s_break, s_expr, s_retN, s_var, s_c, s_op, s_nil, s_cons, s_cb, s_call, s_tup, s_lst, s_sub, s_bm, s_aug, s_asg, s_sl, s_nopart, s_part, s_ret, s_ifs, s_if, s_test, s_not, s_and, s_or, s_andV, s_orV, s_notV, s_oI, s_add, s_mul, s_cmp, s_cmps, s_eq, s_eqs, s_eqb, s_lc, s_for, s_ex, s_pn, s_pc, s_disp, s_r1, s_r2, s_e, s_z, wipeD, s_setdN, s_tcount, s_xget, s_get, s_fld, s_meth, s_make, s_raise, s_raiseI, s_dget2, List.getElem?_cons_zero, List.getElem?_cons_succ, List.set_cons_zero, List.set_cons_succ, Option.some.injEq, exists_eq_left', exists_eq_left, startD, List.map_cons, List.map_nil, List.length_cons, List.length_nil, List.replicate_succ, List.replicate_zero, List.append_nil, List.cons_append, List.nil_append, D.bl.injEq, D.int.injEq, D.str.injEq, D.tupz.injEq, D.ref.injEq, decide_eq_true_eq, decide_eq_false_iff_not, Bool.bne_false, Bool.bne_true, Nat.reduceAdd, Nat.reduceSub, Nat.reduceLeDiff, reduceCtorEq, true_and, and_true, false_implies, true_implies, imp_self, Bool.false_eq_true, forall_const]
  refine ⟨fun _ => ⟨rcv_s, _, _, rfl, rfl, by decide, by rw [sizeLine_eq]; decide, .inl ?_⟩, fun _ => ⟨fun _ => ?_, fun _ => ⟨fun _ => ⟨rcv_s, false, ⟨_, rfl, by omega, by omega, ?_⟩⟩, fun _ => ⟨fun _ => ⟨by decide, .inl ⟨by decide, ?_⟩⟩, fun _ => ?_⟩⟩⟩⟩
  · refine ⟨a, dr.ds, .inl ⟨_, rfl, by decide +kernel, by decide +kernel, fun x S3 hx dr3 => ?_⟩⟩
    obtain ⟨w, hw, rfl⟩ := List.mem_map.mp hx
    exact ret_ (q w _ (List.all_eq_true.mp (by decide +kernel : (Txt.split "and def do else end for if in not or return use while" " ").all PyData.strOk = true) w hw) (dr.trans dr3))
  · exact ⟨a, dr.ds, .inr ⟨_, rfl, by decide +kernel, by decide +kernel, by decide +kernel, fun c S3 hc dr3 => ret_ (q _ _ (sOk1 hc) (dr.trans dr3))⟩⟩
  · refine signs dr.ds (by omega) (by omega) (fun d S1 hs1 Q' hQ => ?_) fun xs S3 hl hT dr3 => ?_
    · simp only [s_seq, s_set, s_next, s_cont, s_break, s_expr, s_retN, s_var, s_c, s_op, s_nil, s_cons, s_cb, s_call, s_tup, s_lst, s_sub, s_bm, s_aug, s_asg, s_sl, s_nopart, s_part, s_ret, s_ifs, s_if, s_test, s_not, s_and, s_or, s_andV, s_orV, s_notV, s_oI, s_add, s_mul, s_cmp, s_cmps, s_eq, s_eqs, s_eqb, s_lc, s_for, s_ex, s_pn, s_pc, s_disp, s_r1, s_r2, s_e, s_z, wipeD, s_setdN, s_tcount, s_xget, s_get, s_fld, s_meth, s_make, s_raise, s_raiseI, s_dget2, List.getElem?_cons_zero, List.getElem?_cons_succ, List.set_cons_zero, List.set_cons_succ, Option.some.injEq, exists_eq_left', exists_eq_left, startD, List.map_cons, List.map_nil, List.length_cons, List.length_nil, List.replicate_succ, List.replicate_zero, List.append_nil, List.cons_append, List.nil_append, D.bl.injEq, D.int.injEq, D.str.injEq, D.tupz.injEq, D.ref.injEq, decide_eq_true_eq, decide_eq_false_iff_not, Bool.bne_false, Bool.bne_true, Nat.reduceAdd, Nat.reduceSub, Nat.reduceLeDiff, reduceCtorEq, true_and, and_true, false_implies, true_implies, imp_self, Bool.false_eq_true, forall_const]
      exact ⟨a, hs1, .inr ⟨_, rfl, by decide +kernel, by decide +kernel, by decide +kernel, fun c S3 hc dr3 => hQ _ _ hc dr3⟩⟩
    · obtain ⟨ys, rfl, hy, hz⟩ := chars xs hT hl
      exact join0 (.inl rfl) hz fun w _ hw => ret_ (q w _ (hw hy) (dr.trans dr3))
  · refine ix_l rfl (d := .str (["0", "1", "2"].getD (n % 3) "")) ?_ (ret_ (q _ _ ?_ dr))
    have : n % 3 < 3 := Nat.mod_lt _ (by decide)
    rcases (by omega : n % 3 = 0 ∨ n % 3 = 1 ∨ n % 3 = 2) with h | h | h
    · have e : (n : Int) % 3 = 0 := by omega
      rw [e, h]; rfl
    · have e : (n : Int) % 3 = 1 := by omega
      rw [e, h]; rfl
    · have e : (n : Int) % 3 = 2 := by omega
      rw [e, h]; rfl
    · rcases (by omega : n % 3 = 0 ∨ n % 3 = 1 ∨ n % 3 = 2) with h | h | h <;> (rw [h]; decide +kernel)
  · refine ⟨a, dr.ds, .inr ⟨_, rfl, by decide +kernel, by decide +kernel, by decide +kernel, fun c S3 hc dr3 => ?_⟩⟩
    refine ⟨rcv_s, false, ⟨_, rfl, by omega, by omega, ?_⟩⟩
    refine signs dr3.ds (by omega) (by omega) (fun d S1 hs1 Q' hQ => ?_) fun xs S4 hl hT dr4 => ?_
    · simp only [s_seq, s_set, s_next, s_cont, s_break, s_expr, s_retN, s_var, s_c, s_op, s_nil, s_cons, s_cb, s_call, s_tup, s_lst, s_sub, s_bm, s_aug, s_asg, s_sl, s_nopart, s_part, s_ret, s_ifs, s_if, s_test, s_not, s_and, s_or, s_andV, s_orV, s_notV, s_oI, s_add, s_mul, s_cmp, s_cmps, s_eq, s_eqs, s_eqb, s_lc, s_for, s_ex, s_pn, s_pc, s_disp, s_r1, s_r2, s_e, s_z, wipeD, s_setdN, s_tcount, s_xget, s_get, s_fld, s_meth, s_make, s_raise, s_raiseI, s_dget2, List.getElem?_cons_zero, List.getElem?_cons_succ, List.set_cons_zero, List.set_cons_succ, Option.some.injEq, exists_eq_left', exists_eq_left, startD, List.map_cons, List.map_nil, List.length_cons, List.length_nil, List.replicate_succ, List.replicate_zero, List.append_nil, List.cons_append, List.nil_append, D.bl.injEq, D.int.injEq, D.str.injEq, D.tupz.injEq, D.ref.injEq, decide_eq_true_eq, decide_eq_false_iff_not, Bool.bne_false, Bool.bne_true, Nat.reduceAdd, Nat.reduceSub, Nat.reduceLeDiff, reduceCtorEq, true_and, and_true, false_implies, true_implies, imp_self, Bool.false_eq_true, forall_const]
      refine ⟨by rw [sizeLine_eq]; decide, ?_⟩
      exact ⟨a, hs1, .inr ⟨_, rfl, by decide +kernel, by decide +kernel, by decide +kernel, fun c S3 hc dr3 => hQ _ _ hc dr3⟩⟩
    · obtain ⟨ys, rfl, hy, hz⟩ := chars xs hT hl
      refine join0 (.inl rfl) hz fun w hw hwo => ?_
      rw [s_adds]
      refine ⟨?_, ret_ (q _ _ (sOk_app (sOk1 hc) (hwo hy)) ((dr.trans dr3).trans dr4))⟩
      show 1 + w.length ≤ _
      rw [sizeLine_eq]
      omega
theorem p_law_pool (c : SaysB fa fn K.K) (h : A_law_pool K ds S Q E) : w_law_pool K (fun c p _ S' => E c p S') { nx := fun _ S' => Q .non S', rt := Q } (startD ["_law_state", "_law_k"] ds) S := by
  obtain ⟨a, rfl, hs, q⟩ := h
  unfold w_law_pool
  simp only [s_seq, s_set, s_next, s_cont, s_break, s_expr, s_retN, s_var, s_c, s_op, s_nil, s_cons, s_cb, s_call, s_tup, s_lst, s_sub, s_bm, s_aug, s_asg, s_sl, s_nopart, s_part, s_ret, s_ifs, s_if, s_test, s_not, s_and, s_or, s_andV, s_orV, s_notV, s_oI, s_add, s_mul, s_cmp, s_cmps, s_eq, s_eqs, s_eqb, s_lc, s_for, s_ex, s_pn, s_pc, s_disp, s_r1, s_r2, s_e, s_z, wipeD, s_setdN, s_tcount, s_xget, s_get, s_fld, s_meth, s_make, s_raise, s_raiseI, s_dget2, List.getElem?_cons_zero, List.getElem?_cons_succ, List.set_cons_zero, List.set_cons_succ, Option.some.injEq, exists_eq_left', exists_eq_left, startD, List.map_cons, List.map_nil, List.length_cons, List.length_nil, List.replicate_succ, List.replicate_zero, List.append_nil, List.cons_append, List.nil_append, D.bl.injEq, D.int.injEq, D.str.injEq, D.tupz.injEq, D.ref.injEq, decide_eq_true_eq, decide_eq_false_iff_not, Bool.bne_false, Bool.bne_true, Nat.reduceAdd, Nat.reduceSub, Nat.reduceLeDiff, reduceCtorEq, true_and, and_true, false_implies, true_implies, imp_self, Bool.false_eq_true, forall_const]
  refine ⟨a, 8, rfl, hs, by decide, by decide, fun r S1 r0 r1 dr1 => ?_⟩
  simp only [s_seq, s_set, s_next, s_cont, s_break, s_expr, s_retN, s_var, s_c, s_op, s_nil, s_cons, s_cb, s_call, s_tup, s_lst, s_sub, s_bm, s_aug, s_asg, s_sl, s_nopart, s_part, s_ret, s_ifs, s_if, s_test, s_not, s_and, s_or, s_andV, s_orV, s_notV, s_oI, s_add, s_mul, s_cmp, s_cmps, s_eq, s_eqs, s_eqb, s_lc, s_for, s_ex, s_pn, s_pc, s_disp, s_r1, s_r2, s_e, s_z, wipeD, s_setdN, s_tcount, s_xget, s_get, s_fld, s_meth, s_make, s_raise, s_raiseI, s_dget2, List.getElem?_cons_zero, List.getElem?_cons_succ, List.set_cons_zero, List.set_cons_succ, Option.some.injEq, exists_eq_left', exists_eq_left, startD, List.map_cons, List.map_nil, List.length_cons, List.length_nil, List.replicate_succ, List.replicate_zero, List.append_nil, List.cons_append, List.nil_append, D.bl.injEq, D.int.injEq, D.str.injEq, D.tupz.injEq, D.ref.injEq, decide_eq_true_eq, decide_eq_false_iff_not, Bool.bne_false, Bool.bne_true, Nat.reduceAdd, Nat.reduceSub, Nat.reduceLeDiff, reduceCtorEq, true_and, and_true, false_implies, true_implies, imp_self, Bool.false_eq_true, forall_const]
  refine ⟨fun _ => ⟨by decide, .inl (ret_ (q ["1", "11", "2", "12", "21"] _ (by decide) (by decide) (by decide +kernel) dr1))⟩, fun _ => ⟨false, ?_⟩⟩
  refine ⟨a, 5, rfl, dr1.ds, by decide, by decide, fun r2 S2 h20 h21 dr2 => ⟨1 + r2, rfl, by omega, by omega, ?_⟩⟩
  refine lc_draw (fun d => ∃ w, d = .str w ∧ sOk w) dr2.ds (fun _ => trivial) (by rw [rangeD_length, sizeLine_eq]; omega) (fun d hd S1 hs1 => ⟨_, rfl, fun Q' hQ => ?_⟩) fun xs S3 hl hT dr3 => ?_
  · simp only [s_seq, s_set, s_next, s_cont, s_break, s_expr, s_retN, s_var, s_c, s_op, s_nil, s_cons, s_cb, s_call, s_tup, s_lst, s_sub, s_bm, s_aug, s_asg, s_sl, s_nopart, s_part, s_ret, s_ifs, s_if, s_test, s_not, s_and, s_or, s_andV, s_orV, s_notV, s_oI, s_add, s_mul, s_cmp, s_cmps, s_eq, s_eqs, s_eqb, s_lc, s_for, s_ex, s_pn, s_pc, s_disp, s_r1, s_r2, s_e, s_z, wipeD, s_setdN, s_tcount, s_xget, s_get, s_fld, s_meth, s_make, s_raise, s_raiseI, s_dget2, List.getElem?_cons_zero, List.getElem?_cons_succ, List.set_cons_zero, List.set_cons_succ, Option.some.injEq, exists_eq_left', exists_eq_left, startD, List.map_cons, List.map_nil, List.length_cons, List.length_nil, List.replicate_succ, List.replicate_zero, List.append_nil, List.cons_append, List.nil_append, D.bl.injEq, D.int.injEq, D.str.injEq, D.tupz.injEq, D.ref.injEq, decide_eq_true_eq, decide_eq_false_iff_not, Bool.bne_false, Bool.bne_true, Nat.reduceAdd, Nat.reduceSub, Nat.reduceLeDiff, reduceCtorEq, true_and, and_true, false_implies, true_implies, imp_self, Bool.false_eq_true, forall_const]
    exact ⟨a, rfl, hs1, fun w S4 hw dr4 => hQ _ _ ⟨w, rfl, hw⟩ dr4⟩
  · obtain ⟨ws, e⟩ := list_of (f := D.str) fun x hx => (hT x hx).imp fun _ z => z.1
    subst e
    rw [List.length_map, rangeD_length] at hl
    refine ret_ (q ws _ (fun e => ?_) (by omega) (fun w hw => ?_) ((dr1.trans dr2).trans dr3))
    · rw [e, List.length_nil] at hl
      omega
    · obtain ⟨w', e', hw'⟩ := hT _ (List.mem_map_of_mem (f := D.str) hw)
      cases e'
      exact hw'
end
end N42
set_option Elab.async false
set_option linter.all false
set_option maxRecDepth 100000
set_option maxHeartbeats 4000000
namespace N42
open PySem PySem.Spec PyProof.Rows L2 KR
section
variable {K : Kx} {S S' : Store} {Q : VQ} {E : EQ} {ds : List D} {a : Addr}
theorem cutL_len {α : Type} : ∀ {ns : List Nat} {xs : List α}, (cutL xs ns).length = ns.length
  | [], _ => rfl
  | n :: ns, xs => by unfold cutL; rw [List.length_cons, List.length_cons, cutL_len]
theorem cutL_get {α : Type} : ∀ {ns : List Nat} {xs : List α} {i n : Nat}, ns[i]? = some n → (cutL xs ns)[i]? = some ((xs.drop (ns.take i).sum).take n)
  | n :: ns, xs, 0, m, h => by
    unfold cutL
    simp at h
    subst h
    simp
  | n :: ns, xs, i + 1, m, h => by
    unfold cutL
    rw [List.getElem?_cons_succ] at h ⊢
    rw [cutL_get h, List.take_succ_cons, List.sum_cons, List.drop_drop]
theorem sum_take {ns : List Nat} {i n : Nat} (h : ns[i]? = some n) : (ns.take (i + 1)).sum = (ns.take i).sum + n := by
  rw [List.take_add_one, h, Option.toList_some, List.sum_append, List.sum_singleton]
theorem take_snoc {α : Type} {xs : List α} {i : Nat} {x : α} (h : xs[i]? = some x) : xs.take (i + 1) = xs.take i ++ [x] := by
  rw [List.take_add_one, h, Option.toList_some]
theorem sum_le {ns : List Nat} {b : Nat} (h : ∀ n ∈ ns, n ≤ b) : ns.sum ≤ ns.length * b := by
  induction ns with
  | nil => simp
  | cons n ns ih =>
    have h1 := h n List.mem_cons_self
    have h2 := ih fun m hm => h m (List.mem_cons_of_mem _ hm)
    rw [List.sum_cons, List.length_cons, Nat.add_mul]
    omega
/-- a list cell that is told as a tree -/
theorem ret_frz {p : Addr} {xs : List D} {S : Store} {Q : VQ} (h : S p = none) (q : Q (.lst xs) S) : ∃ S2, Sub S2 (sup S p (.lst xs)) ∧ (Q (.ref p) S2 ∨ frz1 (.ref p) S2 Q ∨ frzD (.ref p) S2 Q) :=
  ⟨_, Sub.refl, .inr (.inl ⟨p, rfl, .inl ⟨xs, sup_same, by rw [sdel_sup h]; exact q⟩⟩)⟩
theorem p_law_in_rows (c : SaysB fa fn K.K) (h : A_law_in_rows K ds S Q E) : w_law_in_rows K (fun c p _ S' => E c p S') { nx := fun _ S' => Q .non S', rt := Q } (startD ["_law_items_here", "_law_shape_here", "_law_found", "_law_at", "_law_size"] ds) S := by
  obtain ⟨xs, ns, rfl, hx, hn, hb, q⟩ := h
  unfold w_law_in_rows
  simp only [s_seq, s_set, s_next, s_cont, s_break, s_expr, s_retN, s_var, s_c, s_op, s_nil, s_cons, s_cb, s_call, s_tup, s_lst, s_sub, s_bm, s_aug, s_asg, s_sl, s_nopart, s_part, s_ret, s_ifs, s_if, s_test, s_not, s_and, s_or, s_andV, s_orV, s_notV, s_oI, s_add, s_mul, s_cmp, s_cmps, s_eq, s_eqs, s_eqb, s_lc, s_for, s_ex, s_pn, s_pc, s_disp, s_r1, s_r2, s_e, s_z, wipeD, s_setdN, s_tcount, s_xget, s_get, s_fld, s_meth, s_make, s_raise, s_raiseI, s_dget2, List.getElem?_cons_zero, List.getElem?_cons_succ, List.set_cons_zero, List.set_cons_succ, Option.some.injEq, exists_eq_left', exists_eq_left, startD, List.map_cons, List.map_nil, List.length_cons, List.length_nil, List.replicate_succ, List.replicate_zero, List.append_nil, List.cons_append, List.nil_append, D.bl.injEq, D.int.injEq, D.str.injEq, D.tupz.injEq, D.ref.injEq, decide_eq_true_eq, decide_eq_false_iff_not, Bool.bne_false, Bool.bne_true, Nat.reduceAdd, Nat.reduceSub, Nat.reduceLeDiff, reduceCtorEq, true_and, and_true, false_implies, true_implies, imp_self, Bool.false_eq_true, forall_const]
  refine ⟨by decide, .inr fun p hp => ?_⟩
  refine wi_l ?_
  simp only [s_seq, s_set, s_next, s_cont, s_break, s_expr, s_retN, s_var, s_c, s_op, s_nil, s_cons, s_cb, s_call, s_tup, s_lst, s_sub, s_bm, s_aug, s_asg, s_sl, s_nopart, s_part, s_ret, s_ifs, s_if, s_test, s_not, s_and, s_or, s_andV, s_orV, s_notV, s_oI, s_add, s_mul, s_cmp, s_cmps, s_eq, s_eqs, s_eqb, s_lc, s_for, s_ex, s_pn, s_pc, s_disp, s_r1, s_r2, s_e, s_z, wipeD, s_setdN, s_tcount, s_xget, s_get, s_fld, s_meth, s_make, s_raise, s_raiseI, s_dget2, List.getElem?_cons_zero, List.getElem?_cons_succ, List.set_cons_zero, List.set_cons_succ, Option.some.injEq, exists_eq_left', exists_eq_left, startD, List.map_cons, List.map_nil, List.length_cons, List.length_nil, List.replicate_succ, List.replicate_zero, List.append_nil, List.cons_append, List.nil_append, D.bl.injEq, D.int.injEq, D.str.injEq, D.tupz.injEq, D.ref.injEq, decide_eq_true_eq, decide_eq_false_iff_not, Bool.bne_false, Bool.bne_true, Nat.reduceAdd, Nat.reduceSub, Nat.reduceLeDiff, reduceCtorEq, true_and, and_true, false_implies, true_implies, imp_self, Bool.false_eq_true, forall_const]
  refine ⟨iL ns, rfl, fun _ => ?_⟩
  refine ⟨fun i ρ S' => S' = sup S p (.lst (((cutL xs ns).take i).map .lst)) ∧ ∃ y, ρ = [some (.lst xs), some (.lst (iL ns)), some (.ref p), some (.int ((ns.take i).sum : Nat)), y], ⟨rfl, none, rfl⟩, fun i ρ S' _ ⟨e, _⟩ => by rw [e]; rfl, fun i d ρ S' hd ⟨e, y, er⟩ => ?_, fun ρ S' ⟨e, y, er⟩ => ?_⟩
  · subst e er
    rw [List.getElem?_map] at hd
    obtain ⟨n, hn', rfl⟩ := Option.map_eq_some_iff.mp hd
    have hi := (List.getElem?_eq_some_iff.mp hn').1
    refine ⟨_, rfl, ?_⟩
    simp only [s_seq, s_set, s_next, s_cont, s_break, s_expr, s_retN, s_var, s_c, s_op, s_nil, s_cons, s_cb, s_call, s_tup, s_lst, s_sub, s_bm, s_aug, s_asg, s_sl, s_nopart, s_part, s_ret, s_ifs, s_if, s_test, s_not, s_and, s_or, s_andV, s_orV, s_notV, s_oI, s_add, s_mul, s_cmp, s_cmps, s_eq, s_eqs, s_eqb, s_lc, s_for, s_ex, s_pn, s_pc, s_disp, s_r1, s_r2, s_e, s_z, wipeD, s_setdN, s_tcount, s_xget, s_get, s_fld, s_meth, s_make, s_raise, s_raiseI, s_dget2, List.getElem?_cons_zero, List.getElem?_cons_succ, List.set_cons_zero, List.set_cons_succ, Option.some.injEq, exists_eq_left', exists_eq_left, startD, List.map_cons, List.map_nil, List.length_cons, List.length_nil, List.replicate_succ, List.replicate_zero, List.append_nil, List.cons_append, List.nil_append, D.bl.injEq, D.int.injEq, D.str.injEq, D.tupz.injEq, D.ref.injEq, decide_eq_true_eq, decide_eq_false_iff_not, Bool.bne_false, Bool.bne_true, Nat.reduceAdd, Nat.reduceSub, Nat.reduceLeDiff, reduceCtorEq, true_and, and_true, false_implies, true_implies, imp_self, Bool.false_eq_true, forall_const]
    have e1 : asL (sup S p (.lst (((cutL xs ns).take i).map .lst))) (.ref p) = some (((cutL xs ns).take i).map .lst) := by
      show (match sup S p _ p with | some (.lst xs) => some xs | _ => none) = _
      rw [sup_same]
    refine ⟨rcv_l e1, ?_⟩
    show oSlB _ _ _ _ _
    unfold oSlB
    refine .inl ?_
    rw [cutD_nat]
    refine ⟨p, _, _, rfl, rfl, sup_same, ?_, ?_⟩
    · rw [List.length_map, List.length_take, sizeLine_eq]
      omega
    · refine ⟨?_, some (.int (n : Int)), ?_⟩
      · rw [sup_sup, take_snoc (cutL_get hn'), List.map_append]
        rfl
      · rw [sum_take hn']
        rfl
  · subst e er
    rw [List.length_map, ← cutL_len (xs := xs) (ns := ns), List.take_length]
    simp only [s_seq, s_set, s_next, s_cont, s_break, s_expr, s_retN, s_var, s_c, s_op, s_nil, s_cons, s_cb, s_call, s_tup, s_lst, s_sub, s_bm, s_aug, s_asg, s_sl, s_nopart, s_part, s_ret, s_ifs, s_if, s_test, s_not, s_and, s_or, s_andV, s_orV, s_notV, s_oI, s_add, s_mul, s_cmp, s_cmps, s_eq, s_eqs, s_eqb, s_lc, s_for, s_ex, s_pn, s_pc, s_disp, s_r1, s_r2, s_e, s_z, wipeD, s_setdN, s_tcount, s_xget, s_get, s_fld, s_meth, s_make, s_raise, s_raiseI, s_dget2, List.getElem?_cons_zero, List.getElem?_cons_succ, List.set_cons_zero, List.set_cons_succ, Option.some.injEq, exists_eq_left', exists_eq_left, startD, List.map_cons, List.map_nil, List.length_cons, List.length_nil, List.replicate_succ, List.replicate_zero, List.append_nil, List.cons_append, List.nil_append, D.bl.injEq, D.int.injEq, D.str.injEq, D.tupz.injEq, D.ref.injEq, decide_eq_true_eq, decide_eq_false_iff_not, Bool.bne_false, Bool.bne_true, Nat.reduceAdd, Nat.reduceSub, Nat.reduceLeDiff, reduceCtorEq, true_and, and_true, false_implies, true_implies, imp_self, Bool.false_eq_true, forall_const]
    exact ret_frz hp q
theorem cutL_shape {α : Type} : ∀ {ns : List Nat} {xs : List α}, ns.sum ≤ xs.length → shp (cutL xs ns) = ns
  | [], _, _ => rfl
  | n :: ns, xs, h => by
    unfold cutL
    rw [List.sum_cons] at h
    show (xs.take n).length :: shp _ = _
    rw [cutL_shape (by rw [List.length_drop]; omega), List.length_take, Nat.min_eq_left (by omega)]
theorem cutL_map {α β : Type} (f : α → β) : ∀ {ns : List Nat} {xs : List α}, cutL (xs.map f) ns = (cutL xs ns).map (·.map f)
  | [], _ => rfl
  | n :: ns, xs => by
    unfold cutL
    rw [← List.map_take, ← List.map_drop, cutL_map f, List.map_cons]
theorem cutL_mem {α : Type} : ∀ {ns : List Nat} {xs : List α} {r : List α} {w : α}, r ∈ cutL xs ns → w ∈ r → w ∈ xs
  | [], _, _, _, h, _ => by unfold cutL at h; cases h
  | n :: ns, xs, r, w, h, hw => by
    unfold cutL at h
    rcases List.mem_cons.mp h with e | h
    · subst e; exact List.mem_of_mem_take hw
    · exact List.mem_of_mem_drop (cutL_mem h hw)
theorem p_law_stretch (c : SaysB fa fn K.K) (h : A_law_stretch K ds S Q E) : w_law_stretch K (fun c p _ S' => E c p S') { nx := fun _ S' => Q .non S', rt := Q } (startD ["_law_state", "_law_shape_here", "_law_pool_here", "_law_k"] ds) S := by
  obtain ⟨a, ns, ws, rfl, hs, hw, hwl, hwo, hn, hb, q⟩ := h
  unfold w_law_stretch
  simp only [s_seq, s_set, s_next, s_cont, s_break, s_expr, s_retN, s_var, s_c, s_op, s_nil, s_cons, s_cb, s_call, s_tup, s_lst, s_sub, s_bm, s_aug, s_asg, s_sl, s_nopart, s_part, s_ret, s_ifs, s_if, s_test, s_not, s_and, s_or, s_andV, s_orV, s_notV, s_oI, s_add, s_mul, s_cmp, s_cmps, s_eq, s_eqs, s_eqb, s_lc, s_for, s_ex, s_pn, s_pc, s_disp, s_r1, s_r2, s_e, s_z, wipeD, s_setdN, s_tcount, s_xget, s_get, s_fld, s_meth, s_make, s_raise, s_raiseI, s_dget2, List.getElem?_cons_zero, List.getElem?_cons_succ, List.set_cons_zero, List.set_cons_succ, Option.some.injEq, exists_eq_left', exists_eq_left, startD, List.map_cons, List.map_nil, List.length_cons, List.length_nil, List.replicate_succ, List.replicate_zero, List.append_nil, List.cons_append, List.nil_append, D.bl.injEq, D.int.injEq, D.str.injEq, D.tupz.injEq, D.ref.injEq, decide_eq_true_eq, decide_eq_false_iff_not, Bool.bne_false, Bool.bne_true, Nat.reduceAdd, Nat.reduceSub, Nat.reduceLeDiff, reduceCtorEq, true_and, and_true, false_implies, true_implies, imp_self, Bool.false_eq_true, forall_const]
  have es : ((ns.map fun (n : Nat) => (n : Int)).sum) = ((ns.sum : Nat) : Int) := by
    clear hn hb q
    induction ns with
    | nil => rfl
    | cons n ns ih => rw [List.map_cons, List.sum_cons, List.sum_cons, ih]; omega
  have hsum := sum_le hb
  have hsum2 : ns.length * 30 ≤ 1800 := by omega
  refine ⟨false, .lst (iL ns), ns.map fun (n : Nat) => (n : Int), rfl, by rw [List.map_map]; rfl, _, rfl, by omega, by omega, ?_⟩
  rw [es, Int.toNat_natCast]
  refine lc_draw (fun d => ∃ w, d = .str w ∧ sOk w) hs (fun _ => trivial) (by rw [rangeD_length, sizeLine_eq]; omega) (fun d hd S1 hs1 => ⟨_, rfl, fun Q' hQ => ?_⟩) fun xs S3 hl hT dr3 => ?_
  · simp only [s_seq, s_set, s_next, s_cont, s_break, s_expr, s_retN, s_var, s_c, s_op, s_nil, s_cons, s_cb, s_call, s_tup, s_lst, s_sub, s_bm, s_aug, s_asg, s_sl, s_nopart, s_part, s_ret, s_ifs, s_if, s_test, s_not, s_and, s_or, s_andV, s_orV, s_notV, s_oI, s_add, s_mul, s_cmp, s_cmps, s_eq, s_eqs, s_eqb, s_lc, s_for, s_ex, s_pn, s_pc, s_disp, s_r1, s_r2, s_e, s_z, wipeD, s_setdN, s_tcount, s_xget, s_get, s_fld, s_meth, s_make, s_raise, s_raiseI, s_dget2, List.getElem?_cons_zero, List.getElem?_cons_succ, List.set_cons_zero, List.set_cons_succ, Option.some.injEq, exists_eq_left', exists_eq_left, startD, List.map_cons, List.map_nil, List.length_cons, List.length_nil, List.replicate_succ, List.replicate_zero, List.append_nil, List.cons_append, List.nil_append, D.bl.injEq, D.int.injEq, D.str.injEq, D.tupz.injEq, D.ref.injEq, decide_eq_true_eq, decide_eq_false_iff_not, Bool.bne_false, Bool.bne_true, Nat.reduceAdd, Nat.reduceSub, Nat.reduceLeDiff, reduceCtorEq, true_and, and_true, false_implies, true_implies, imp_self, Bool.false_eq_true, forall_const]
    refine ⟨a, hs1, .inl ⟨_, rfl, ?_, ?_, fun x S4 hx dr4 => ?_⟩⟩
    · rw [List.length_map]
      exact List.length_pos_iff.mpr hw
    · rw [List.length_map]; omega
    · obtain ⟨w, hw', rfl⟩ := List.mem_map.mp hx
      exact hQ _ _ ⟨w, rfl, hwo w hw'⟩ dr4
  · obtain ⟨ws2, e⟩ := list_of (f := D.str) fun x hx => (hT x hx).imp fun _ z => z.1
    subst e
    rw [List.length_map, rangeD_length] at hl
    refine ⟨_, ns, rfl, by rw [List.length_map]; omega, hn, hb, ?_⟩
    rw [cutL_map, List.map_map]
    have hsh : shp (cutL ws2 ns) = ns := cutL_shape (by omega)
    have := q (cutL ws2 ns) S3 hsh ⟨by rw [cutL_len]; exact hn, fun r hr => hb _ (by rw [← hsh]; exact List.mem_map_of_mem hr), fun r hr w hw2 => ?_⟩ dr3
    · exact ret_ this
    · obtain ⟨w', e', hw'⟩ := hT _ (List.mem_map_of_mem (f := D.str) (cutL_mem hr hw2))
      cases e'
      exact hw'
theorem ll_map {β : Type} {S : Store} (F : List D → β) : ∀ {ds : List D} {rs : List (List D)}, Paired (fun x r => asL S x = some r) ds rs → ds.map (fun x => F ((asL S x).getD [])) = rs.map F
  | [], _, h => by cases h; rfl
  | x :: ds, _, h => by
    cases h with
    | cons h t =>
      rw [List.map_cons, List.map_cons, ll_map F t, h]
      rfl
theorem ll_mem {S : Store} : ∀ {ds : List D} {rs : List (List D)} {x : D}, Paired (fun x r => asL S x = some r) ds rs → x ∈ ds → ∃ r, r ∈ rs ∧ asL S x = some r
  | x :: ds, _, y, h, hy => by
    cases h with
    | cons h t =>
      rcases List.mem_cons.mp hy with e | hy
      · subst e; exact ⟨_, List.mem_cons_self, h⟩
      · obtain ⟨r, h1, h2⟩ := ll_mem t hy
        exact ⟨r, List.mem_cons_of_mem _ h1, h2⟩
theorem p_law_copy (c : SaysB fa fn K.K) (h : A_law_copy K ds S Q E) : w_law_copy K (fun c p _ S' => E c p S') { nx := fun _ S' => Q .non S', rt := Q } (startD ["_law_rows", "_law_row"] ds) S := by
  obtain ⟨d, rs, rfl, ⟨xs, hd, hp⟩, q⟩ := h
  unfold w_law_copy
  simp only [s_seq, s_set, s_next, s_cont, s_break, s_expr, s_retN, s_var, s_c, s_op, s_nil, s_cons, s_cb, s_call, s_tup, s_lst, s_sub, s_bm, s_aug, s_asg, s_sl, s_nopart, s_part, s_ret, s_ifs, s_if, s_test, s_not, s_and, s_or, s_andV, s_orV, s_notV, s_oI, s_add, s_mul, s_cmp, s_cmps, s_eq, s_eqs, s_eqb, s_lc, s_for, s_ex, s_pn, s_pc, s_disp, s_r1, s_r2, s_e, s_z, wipeD, s_setdN, s_tcount, s_xget, s_get, s_fld, s_meth, s_make, s_raise, s_raiseI, s_dget2, List.getElem?_cons_zero, List.getElem?_cons_succ, List.set_cons_zero, List.set_cons_succ, Option.some.injEq, exists_eq_left', exists_eq_left, startD, List.map_cons, List.map_nil, List.length_cons, List.length_nil, List.replicate_succ, List.replicate_zero, List.append_nil, List.cons_append, List.nil_append, D.bl.injEq, D.int.injEq, D.str.injEq, D.tupz.injEq, D.ref.injEq, decide_eq_true_eq, decide_eq_false_iff_not, Bool.bne_false, Bool.bne_true, Nat.reduceAdd, Nat.reduceSub, Nat.reduceLeDiff, reduceCtorEq, true_and, and_true, false_implies, true_implies, imp_self, Bool.false_eq_true, forall_const]
  refine ⟨false, wi_l ?_⟩
  simp only [s_seq, s_set, s_next, s_cont, s_break, s_expr, s_retN, s_var, s_c, s_op, s_nil, s_cons, s_cb, s_call, s_tup, s_lst, s_sub, s_bm, s_aug, s_asg, s_sl, s_nopart, s_part, s_ret, s_ifs, s_if, s_test, s_not, s_and, s_or, s_andV, s_orV, s_notV, s_oI, s_add, s_mul, s_cmp, s_cmps, s_eq, s_eqs, s_eqb, s_lc, s_for, s_ex, s_pn, s_pc, s_disp, s_r1, s_r2, s_e, s_z, wipeD, s_setdN, s_tcount, s_xget, s_get, s_fld, s_meth, s_make, s_raise, s_raiseI, s_dget2, List.getElem?_cons_zero, List.getElem?_cons_succ, List.set_cons_zero, List.set_cons_succ, Option.some.injEq, exists_eq_left', exists_eq_left, startD, List.map_cons, List.map_nil, List.length_cons, List.length_nil, List.replicate_succ, List.replicate_zero, List.append_nil, List.cons_append, List.nil_append, D.bl.injEq, D.int.injEq, D.str.injEq, D.tupz.injEq, D.ref.injEq, decide_eq_true_eq, decide_eq_false_iff_not, Bool.bne_false, Bool.bne_true, Nat.reduceAdd, Nat.reduceSub, Nat.reduceLeDiff, reduceCtorEq, true_and, and_true, false_implies, true_implies, imp_self, Bool.false_eq_true, forall_const]
  refine ⟨xs, hd, fun hz => ?_⟩
  refine lc_map (fun x => .lst ((asL S x).getD [])) (fun b us hb => kp_new hd hb) (fun x hx b us hb => ⟨_, rfl, fun Q' hQ => ?_⟩) hz ?_
  · simp only [s_seq, s_set, s_next, s_cont, s_break, s_expr, s_retN, s_var, s_c, s_op, s_nil, s_cons, s_cb, s_call, s_tup, s_lst, s_sub, s_bm, s_aug, s_asg, s_sl, s_nopart, s_part, s_ret, s_ifs, s_if, s_test, s_not, s_and, s_or, s_andV, s_orV, s_notV, s_oI, s_add, s_mul, s_cmp, s_cmps, s_eq, s_eqs, s_eqb, s_lc, s_for, s_ex, s_pn, s_pc, s_disp, s_r1, s_r2, s_e, s_z, wipeD, s_setdN, s_tcount, s_xget, s_get, s_fld, s_meth, s_make, s_raise, s_raiseI, s_dget2, List.getElem?_cons_zero, List.getElem?_cons_succ, List.set_cons_zero, List.set_cons_succ, Option.some.injEq, exists_eq_left', exists_eq_left, startD, List.map_cons, List.map_nil, List.length_cons, List.length_nil, List.replicate_succ, List.replicate_zero, List.append_nil, List.cons_append, List.nil_append, D.bl.injEq, D.int.injEq, D.str.injEq, D.tupz.injEq, D.ref.injEq, decide_eq_true_eq, decide_eq_false_iff_not, Bool.bne_false, Bool.bne_true, Nat.reduceAdd, Nat.reduceSub, Nat.reduceLeDiff, reduceCtorEq, true_and, and_true, false_implies, true_implies, imp_self, Bool.false_eq_true, forall_const]
    obtain ⟨r, _, h2⟩ := ll_mem hp hx
    refine ⟨x, r, rfl, .inl (asL_new h2 hb), .inl ?_⟩
    rw [h2] at hQ
    exact hQ
  · rw [ll_map D.lst hp]
    exact ret_ q
theorem p_law_shape_of (c : SaysB fa fn K.K) (h : A_law_shape_of K ds S Q E) : w_law_shape_of K (fun c p _ S' => E c p S') { nx := fun _ S' => Q .non S', rt := Q } (startD ["_law_rows", "_law_row"] ds) S := by
  obtain ⟨d, rs, rfl, ⟨xs, hd, hp⟩, q⟩ := h
  unfold w_law_shape_of
  simp only [s_seq, s_set, s_next, s_cont, s_break, s_expr, s_retN, s_var, s_c, s_op, s_nil, s_cons, s_cb, s_call, s_tup, s_lst, s_sub, s_bm, s_aug, s_asg, s_sl, s_nopart, s_part, s_ret, s_ifs, s_if, s_test, s_not, s_and, s_or, s_andV, s_orV, s_notV, s_oI, s_add, s_mul, s_cmp, s_cmps, s_eq, s_eqs, s_eqb, s_lc, s_for, s_ex, s_pn, s_pc, s_disp, s_r1, s_r2, s_e, s_z, wipeD, s_setdN, s_tcount, s_xget, s_get, s_fld, s_meth, s_make, s_raise, s_raiseI, s_dget2, List.getElem?_cons_zero, List.getElem?_cons_succ, List.set_cons_zero, List.set_cons_succ, Option.some.injEq, exists_eq_left', exists_eq_left, startD, List.map_cons, List.map_nil, List.length_cons, List.length_nil, List.replicate_succ, List.replicate_zero, List.append_nil, List.cons_append, List.nil_append, D.bl.injEq, D.int.injEq, D.str.injEq, D.tupz.injEq, D.ref.injEq, decide_eq_true_eq, decide_eq_false_iff_not, Bool.bne_false, Bool.bne_true, Nat.reduceAdd, Nat.reduceSub, Nat.reduceLeDiff, reduceCtorEq, true_and, and_true, false_implies, true_implies, imp_self, Bool.false_eq_true, forall_const]
  refine ⟨false, wi_l ?_⟩
  simp only [s_seq, s_set, s_next, s_cont, s_break, s_expr, s_retN, s_var, s_c, s_op, s_nil, s_cons, s_cb, s_call, s_tup, s_lst, s_sub, s_bm, s_aug, s_asg, s_sl, s_nopart, s_part, s_ret, s_ifs, s_if, s_test, s_not, s_and, s_or, s_andV, s_orV, s_notV, s_oI, s_add, s_mul, s_cmp, s_cmps, s_eq, s_eqs, s_eqb, s_lc, s_for, s_ex, s_pn, s_pc, s_disp, s_r1, s_r2, s_e, s_z, wipeD, s_setdN, s_tcount, s_xget, s_get, s_fld, s_meth, s_make, s_raise, s_raiseI, s_dget2, List.getElem?_cons_zero, List.getElem?_cons_succ, List.set_cons_zero, List.set_cons_succ, Option.some.injEq, exists_eq_left', exists_eq_left, startD, List.map_cons, List.map_nil, List.length_cons, List.length_nil, List.replicate_succ, List.replicate_zero, List.append_nil, List.cons_append, List.nil_append, D.bl.injEq, D.int.injEq, D.str.injEq, D.tupz.injEq, D.ref.injEq, decide_eq_true_eq, decide_eq_false_iff_not, Bool.bne_false, Bool.bne_true, Nat.reduceAdd, Nat.reduceSub, Nat.reduceLeDiff, reduceCtorEq, true_and, and_true, false_implies, true_implies, imp_self, Bool.false_eq_true, forall_const]
  refine ⟨xs, hd, fun hz => ?_⟩
  refine lc_map (fun x => .int (((asL S x).getD []).length : Nat)) (fun b us hb => kp_new hd hb) (fun x hx b us hb => ⟨_, rfl, fun Q' hQ => ?_⟩) hz ?_
  · simp only [s_seq, s_set, s_next, s_cont, s_break, s_expr, s_retN, s_var, s_c, s_op, s_nil, s_cons, s_cb, s_call, s_tup, s_lst, s_sub, s_bm, s_aug, s_asg, s_sl, s_nopart, s_part, s_ret, s_ifs, s_if, s_test, s_not, s_and, s_or, s_andV, s_orV, s_notV, s_oI, s_add, s_mul, s_cmp, s_cmps, s_eq, s_eqs, s_eqb, s_lc, s_for, s_ex, s_pn, s_pc, s_disp, s_r1, s_r2, s_e, s_z, wipeD, s_setdN, s_tcount, s_xget, s_get, s_fld, s_meth, s_make, s_raise, s_raiseI, s_dget2, List.getElem?_cons_zero, List.getElem?_cons_succ, List.set_cons_zero, List.set_cons_succ, Option.some.injEq, exists_eq_left', exists_eq_left, startD, List.map_cons, List.map_nil, List.length_cons, List.length_nil, List.replicate_succ, List.replicate_zero, List.append_nil, List.cons_append, List.nil_append, D.bl.injEq, D.int.injEq, D.str.injEq, D.tupz.injEq, D.ref.injEq, decide_eq_true_eq, decide_eq_false_iff_not, Bool.bne_false, Bool.bne_true, Nat.reduceAdd, Nat.reduceSub, Nat.reduceLeDiff, reduceCtorEq, true_and, and_true, false_implies, true_implies, imp_self, Bool.false_eq_true, forall_const]
    obtain ⟨r, _, h2⟩ := ll_mem hp hx
    refine .inl (len_l (asL_new h2 hb) ?_)
    rw [h2] at hQ
    exact hQ
  · rw [ll_map (fun r => D.int (r.length : Nat)) hp]
    refine ret_ ?_
    unfold iL shp at q
    rw [List.map_map] at q
    exact q
theorem p_law_items (c : SaysB fa fn K.K) (h : A_law_items K ds S Q E) : w_law_items K (fun c p _ S' => E c p S') { nx := fun _ S' => Q .non S', rt := Q } (startD ["_law_rows", "_law_found", "_law_row"] ds) S := by
  obtain ⟨d, rs, rfl, ⟨xs, hd, hp⟩, hz, q⟩ := h
  unfold w_law_items
  simp only [s_seq, s_set, s_next, s_cont, s_break, s_expr, s_retN, s_var, s_c, s_op, s_nil, s_cons, s_cb, s_call, s_tup, s_lst, s_sub, s_bm, s_aug, s_asg, s_sl, s_nopart, s_part, s_ret, s_ifs, s_if, s_test, s_not, s_and, s_or, s_andV, s_orV, s_notV, s_oI, s_add, s_mul, s_cmp, s_cmps, s_eq, s_eqs, s_eqb, s_lc, s_for, s_ex, s_pn, s_pc, s_disp, s_r1, s_r2, s_e, s_z, wipeD, s_setdN, s_tcount, s_xget, s_get, s_fld, s_meth, s_make, s_raise, s_raiseI, s_dget2, List.getElem?_cons_zero, List.getElem?_cons_succ, List.set_cons_zero, List.set_cons_succ, Option.some.injEq, exists_eq_left', exists_eq_left, startD, List.map_cons, List.map_nil, List.length_cons, List.length_nil, List.replicate_succ, List.replicate_zero, List.append_nil, List.cons_append, List.nil_append, D.bl.injEq, D.int.injEq, D.str.injEq, D.tupz.injEq, D.ref.injEq, decide_eq_true_eq, decide_eq_false_iff_not, Bool.bne_false, Bool.bne_true, Nat.reduceAdd, Nat.reduceSub, Nat.reduceLeDiff, reduceCtorEq, true_and, and_true, false_implies, true_implies, imp_self, Bool.false_eq_true, forall_const]
  refine ⟨by decide, .inl ?_⟩
  refine wi_l ?_
  simp only [s_seq, s_set, s_next, s_cont, s_break, s_expr, s_retN, s_var, s_c, s_op, s_nil, s_cons, s_cb, s_call, s_tup, s_lst, s_sub, s_bm, s_aug, s_asg, s_sl, s_nopart, s_part, s_ret, s_ifs, s_if, s_test, s_not, s_and, s_or, s_andV, s_orV, s_notV, s_oI, s_add, s_mul, s_cmp, s_cmps, s_eq, s_eqs, s_eqb, s_lc, s_for, s_ex, s_pn, s_pc, s_disp, s_r1, s_r2, s_e, s_z, wipeD, s_setdN, s_tcount, s_xget, s_get, s_fld, s_meth, s_make, s_raise, s_raiseI, s_dget2, List.getElem?_cons_zero, List.getElem?_cons_succ, List.set_cons_zero, List.set_cons_succ, Option.some.injEq, exists_eq_left', exists_eq_left, startD, List.map_cons, List.map_nil, List.length_cons, List.length_nil, List.replicate_succ, List.replicate_zero, List.append_nil, List.cons_append, List.nil_append, D.bl.injEq, D.int.injEq, D.str.injEq, D.tupz.injEq, D.ref.injEq, decide_eq_true_eq, decide_eq_false_iff_not, Bool.bne_false, Bool.bne_true, Nat.reduceAdd, Nat.reduceSub, Nat.reduceLeDiff, reduceCtorEq, true_and, and_true, false_implies, true_implies, imp_self, Bool.false_eq_true, forall_const]
  refine ⟨xs, hd, fun hz2 => ?_⟩
  refine ⟨fun i ρ S' => S' = S ∧ ∃ y, ρ = [some d, some (.lst (rs.take i).flatten), y], ⟨rfl, none, rfl⟩, fun i ρ S' _ ⟨e, _⟩ => by rw [e]; exact hd, fun i x ρ S' hx ⟨e, y, er⟩ => ?_, fun ρ S' ⟨e, y, er⟩ => ?_⟩
  · subst e er
    obtain ⟨r, hr, h2⟩ := L2.paired_get hp hx
    refine ⟨_, rfl, ?_⟩
    simp only [s_seq, s_set, s_next, s_cont, s_break, s_expr, s_retN, s_var, s_c, s_op, s_nil, s_cons, s_cb, s_call, s_tup, s_lst, s_sub, s_bm, s_aug, s_asg, s_sl, s_nopart, s_part, s_ret, s_ifs, s_if, s_test, s_not, s_and, s_or, s_andV, s_orV, s_notV, s_oI, s_add, s_mul, s_cmp, s_cmps, s_eq, s_eqs, s_eqb, s_lc, s_for, s_ex, s_pn, s_pc, s_disp, s_r1, s_r2, s_e, s_z, wipeD, s_setdN, s_tcount, s_xget, s_get, s_fld, s_meth, s_make, s_raise, s_raiseI, s_dget2, List.getElem?_cons_zero, List.getElem?_cons_succ, List.set_cons_zero, List.set_cons_succ, Option.some.injEq, exists_eq_left', exists_eq_left, startD, List.map_cons, List.map_nil, List.length_cons, List.length_nil, List.replicate_succ, List.replicate_zero, List.append_nil, List.cons_append, List.nil_append, D.bl.injEq, D.int.injEq, D.str.injEq, D.tupz.injEq, D.ref.injEq, decide_eq_true_eq, decide_eq_false_iff_not, Bool.bne_false, Bool.bne_true, Nat.reduceAdd, Nat.reduceSub, Nat.reduceLeDiff, reduceCtorEq, true_and, and_true, false_implies, true_implies, imp_self, Bool.false_eq_true, forall_const]
    refine ⟨x, r, rfl, .inl h2, .inl ?_⟩
    have e : (rs.take (i + 1)).flatten = (rs.take i).flatten ++ r := by rw [take_snoc hr, List.flatten_append]; simp
    have hl : (rs.take (i + 1)).flatten.length ≤ rs.flatten.length := by
      have : rs.flatten = (rs.take (i + 1)).flatten ++ (rs.drop (i + 1)).flatten := by rw [← List.flatten_append, List.take_append_drop]
      rw [this, List.length_append]
      omega
    refine add_l rfl rfl ?_ (.inl ⟨rfl, some x, ?_⟩)
    · rw [← List.length_append, ← e, sizeLine_eq]; omega
    · rw [e]
  · subst e er
    rw [Paired.length hp, List.take_length]
    simp only [s_seq, s_set, s_next, s_cont, s_break, s_expr, s_retN, s_var, s_c, s_op, s_nil, s_cons, s_cb, s_call, s_tup, s_lst, s_sub, s_bm, s_aug, s_asg, s_sl, s_nopart, s_part, s_ret, s_ifs, s_if, s_test, s_not, s_and, s_or, s_andV, s_orV, s_notV, s_oI, s_add, s_mul, s_cmp, s_cmps, s_eq, s_eqs, s_eqb, s_lc, s_for, s_ex, s_pn, s_pc, s_disp, s_r1, s_r2, s_e, s_z, wipeD, s_setdN, s_tcount, s_xget, s_get, s_fld, s_meth, s_make, s_raise, s_raiseI, s_dget2, List.getElem?_cons_zero, List.getElem?_cons_succ, List.set_cons_zero, List.set_cons_succ, Option.some.injEq, exists_eq_left', exists_eq_left, startD, List.map_cons, List.map_nil, List.length_cons, List.length_nil, List.replicate_succ, List.replicate_zero, List.append_nil, List.cons_append, List.nil_append, D.bl.injEq, D.int.injEq, D.str.injEq, D.tupz.injEq, D.ref.injEq, decide_eq_true_eq, decide_eq_false_iff_not, Bool.bne_false, Bool.bne_true, Nat.reduceAdd, Nat.reduceSub, Nat.reduceLeDiff, reduceCtorEq, true_and, and_true, false_implies, true_implies, imp_self, Bool.false_eq_true, forall_const]
    exact ret_ q
end
end N42
set_option Elab.async false
set_option linter.all false
set_option maxRecDepth 100000
set_option maxHeartbeats 4000000
namespace N42
open PySem PySem.Spec PyProof.Rows L2 KR
section
variable {K : Kx} {S S' : Store} {Q : VQ} {E : EQ} {ds : List D} {a : Addr}
theorem ty_int {i : Int} : tyD S (.int i) "int" := .inr (.inr (.inl ⟨i, rfl, rfl⟩))
theorem ty_str {x : Str} : tyD S (.str x) "str" := .inr (.inr (.inr (.inl ⟨x, rfl, rfl⟩)))
theorem ty_lst {d : D} {xs : List D} (h : asX S d = some xs) : tyD S d "list" := .inr (.inr (.inr (.inr (.inl ⟨xs, h, rfl⟩))))
theorem isi {x c : D} {T : String} {u : Value} {b : Bool} (h1 : clsD c = some u) (h2 : tyD S x T) (h3 : PySem.W.kitOne K.K (.type T) u = some b) (q : Q (.bl b) S) : oIsiB K [x, c] S Q := .inl ⟨x, T, c, u, b, rfl, h1, h2, h3, q⟩
theorem isiE {C : Addr} {fs : List (Str × D)} {c : D} {u : Value} {b : Bool} (h1 : clsD c = some u) (h2 : ExC K.K C) (h3 : PySem.W.kitOne K.K (.ref C) u = some b) (q : Q (.bl b) S) : oIsiB K [.exc C fs, c] S Q := .inr ⟨C, fs, c, u, b, rfl, h1, h2, h3, q⟩
theorem p_law_hole (c : SaysB fa fn K.K) (h : A_law_hole K ds S Q E) : w_law_hole K (fun c p _ S' => E c p S') { nx := fun _ S' => Q .non S', rt := Q } (startD ["_law_item"] ds) S := by
  obtain ⟨d, rfl, hf, q⟩ := h
  unfold w_law_hole
  simp only [s_seq, s_set, s_next, s_cont, s_break, s_expr, s_retN, s_var, s_c, s_op, s_nil, s_cons, s_cb, s_call, s_tup, s_lst, s_sub, s_bm, s_aug, s_asg, s_sl, s_nopart, s_part, s_ret, s_ifs, s_if, s_test, s_not, s_and, s_or, s_andV, s_orV, s_notV, s_oI, s_add, s_mul, s_cmp, s_cmps, s_eq, s_eqs, s_eqb, s_lc, s_for, s_ex, s_pn, s_pc, s_disp, s_r1, s_r2, s_e, s_z, wipeD, s_setdN, s_tcount, s_xget, s_get, s_fld, s_meth, s_make, s_raise, s_raiseI, s_dget2, List.getElem?_cons_zero, List.getElem?_cons_succ, List.set_cons_zero, List.set_cons_succ, Option.some.injEq, exists_eq_left', exists_eq_left, startD, List.map_cons, List.map_nil, List.length_cons, List.length_nil, List.replicate_succ, List.replicate_zero, List.append_nil, List.cons_append, List.nil_append, D.bl.injEq, D.int.injEq, D.str.injEq, D.tupz.injEq, D.ref.injEq, decide_eq_true_eq, decide_eq_false_iff_not, Bool.bne_false, Bool.bne_true, Nat.reduceAdd, Nat.reduceSub, Nat.reduceLeDiff, reduceCtorEq, true_and, and_true, false_implies, true_implies, imp_self, Bool.false_eq_true, forall_const]
  cases d with
  | int i =>
    refine isi rfl ty_int (k_int_int c) ⟨true, rfl, ⟨fun _ => ?_, fun h => (nomatch h)⟩⟩
    exact isi rfl ty_int (k_int_bool c) ⟨false, rfl, ret_ q⟩
  | str x => exact isi rfl ty_str (k_str_int c) ⟨false, rfl, ⟨fun h => (nomatch h), fun _ => ret_ q⟩⟩
  | _ => cases hf
theorem p_law_classes (c : SaysB fa fn K.K) (h : A_law_classes K ds S Q E) : w_law_classes K (fun c p _ S' => E c p S') { nx := fun _ S' => Q .non S', rt := Q } (startD ["_law_error", "_law_found"] ds) S := by
  obtain ⟨fs, ⟨rfl, q⟩ | ⟨rfl, q⟩⟩ := h
  · unfold w_law_classes
    simp only [s_seq, s_set, s_next, s_cont, s_break, s_expr, s_retN, s_var, s_c, s_op, s_nil, s_cons, s_cb, s_call, s_tup, s_lst, s_sub, s_bm, s_aug, s_asg, s_sl, s_nopart, s_part, s_ret, s_ifs, s_if, s_test, s_not, s_and, s_or, s_andV, s_orV, s_notV, s_oI, s_add, s_mul, s_cmp, s_cmps, s_eq, s_eqs, s_eqb, s_lc, s_for, s_ex, s_pn, s_pc, s_disp, s_r1, s_r2, s_e, s_z, wipeD, s_setdN, s_tcount, s_xget, s_get, s_fld, s_meth, s_make, s_raise, s_raiseI, s_dget2, List.getElem?_cons_zero, List.getElem?_cons_succ, List.set_cons_zero, List.set_cons_succ, Option.some.injEq, exists_eq_left', exists_eq_left, startD, List.map_cons, List.map_nil, List.length_cons, List.length_nil, List.replicate_succ, List.replicate_zero, List.append_nil, List.cons_append, List.nil_append, D.bl.injEq, D.int.injEq, D.str.injEq, D.tupz.injEq, D.ref.injEq, decide_eq_true_eq, decide_eq_false_iff_not, Bool.bne_false, Bool.bne_true, Nat.reduceAdd, Nat.reduceSub, Nat.reduceLeDiff, reduceCtorEq, true_and, and_true, false_implies, true_implies, imp_self, Bool.false_eq_true, forall_const]
    refine isiE rfl (x_Shape c) (k_Shape_Shape c) (isiE rfl (x_Shape c) (k_Shape_NoRows c) (isiE rfl (x_Shape c) (k_Shape_BadForm c) ⟨by decide, .inl ?_⟩))
    refine isiE rfl (x_Shape c) (k_Shape_BadFilling c) (isiE rfl (x_Shape c) (k_Shape_BadRow c) (isiE rfl (x_Shape c) (k_Shape_BadWord c) ⟨by decide, .inl (add_l rfl rfl (by rw [sizeLine_eq]; decide) (.inl ?_))⟩))
    exact isiE rfl (x_Shape c) (k_Shape_ValueError c) ⟨by decide, .inl (add_l rfl rfl (by rw [sizeLine_eq]; decide) (.inl (ret_ q)))⟩
  · unfold w_law_classes
    simp only [s_seq, s_set, s_next, s_cont, s_break, s_expr, s_retN, s_var, s_c, s_op, s_nil, s_cons, s_cb, s_call, s_tup, s_lst, s_sub, s_bm, s_aug, s_asg, s_sl, s_nopart, s_part, s_ret, s_ifs, s_if, s_test, s_not, s_and, s_or, s_andV, s_orV, s_notV, s_oI, s_add, s_mul, s_cmp, s_cmps, s_eq, s_eqs, s_eqb, s_lc, s_for, s_ex, s_pn, s_pc, s_disp, s_r1, s_r2, s_e, s_z, wipeD, s_setdN, s_tcount, s_xget, s_get, s_fld, s_meth, s_make, s_raise, s_raiseI, s_dget2, List.getElem?_cons_zero, List.getElem?_cons_succ, List.set_cons_zero, List.set_cons_succ, Option.some.injEq, exists_eq_left', exists_eq_left, startD, List.map_cons, List.map_nil, List.length_cons, List.length_nil, List.replicate_succ, List.replicate_zero, List.append_nil, List.cons_append, List.nil_append, D.bl.injEq, D.int.injEq, D.str.injEq, D.tupz.injEq, D.ref.injEq, decide_eq_true_eq, decide_eq_false_iff_not, Bool.bne_false, Bool.bne_true, Nat.reduceAdd, Nat.reduceSub, Nat.reduceLeDiff, reduceCtorEq, true_and, and_true, false_implies, true_implies, imp_self, Bool.false_eq_true, forall_const]
    refine isiE rfl (x_NoRows c) (k_NoRows_Shape c) (isiE rfl (x_NoRows c) (k_NoRows_NoRows c) (isiE rfl (x_NoRows c) (k_NoRows_BadForm c) ⟨by decide, .inl ?_⟩))
    refine isiE rfl (x_NoRows c) (k_NoRows_BadFilling c) (isiE rfl (x_NoRows c) (k_NoRows_BadRow c) (isiE rfl (x_NoRows c) (k_NoRows_BadWord c) ⟨by decide, .inl (add_l rfl rfl (by rw [sizeLine_eq]; decide) (.inl ?_))⟩))
    exact isiE rfl (x_NoRows c) (k_NoRows_ValueError c) ⟨by decide, .inl (add_l rfl rfl (by rw [sizeLine_eq]; decide) (.inl (ret_ q)))⟩
/-! ### where shapes part -/
def cellO (r : Nat) (s : List Nat) : D := match s[r]? with
  | some n => .int (n : Int)
  | none => .non
def badr (sh : List (List Nat)) (r : Nat) : Bool := !(sh.all fun s => decide (s[r]? = (sh.headD [])[r]?))
theorem eq_cellO {r : Nat} {s t : List Nat} : eqF (cellO r s) (cellO r t) = decide (s[r]? = t[r]?) := by
  unfold cellO
  cases s[r]? with
  | none => cases t[r]? <;> rfl
  | some n =>
    cases t[r]? with
    | none => rfl
    | some m =>
      show decide ((n : Int) = (m : Int)) = decide (some n = some m)
      simp only [Option.some.injEq, decide_eq_decide]
      omega
theorem flat_cellO {r : Nat} {s : List Nat} : flatD (cellO r s) = true := by
  unfold cellO
  cases s[r]? <;> rfl
theorem cnt_bad {s : List Nat} {sh : List (List Nat)} {r : Nat} : (((s :: sh).map (cellO r)).countP fun z => eqF z (cellO r s)) = (s :: sh).length ↔ badr (s :: sh) r = false := by
  have e : (((s :: sh).map (cellO r)).countP fun z => eqF z (cellO r s)) = (s :: sh).countP fun t => decide (t[r]? = s[r]?) := by
    rw [List.countP_map]
    congr 1
    funext t
    exact eq_cellO
  rw [e, List.countP_eq_length]
  unfold badr
  rw [Bool.not_eq_false', List.all_eq_true]
  rfl
theorem bad_some {sh : List (List Nat)} {i : Nat} (h : ∀ j < i, badr sh j = false) (hi : i < (sh.map List.length).foldr max 0) (hb : badr sh i = true) : bad sh = some i := by
  unfold bad
  rw [List.find?_range_eq_some]
  exact ⟨hb, List.mem_range.mpr hi, fun j hj => by rw [Bool.not_eq_true']; exact h j hj⟩
theorem bad_none {sh : List (List Nat)} (h : ∀ j < (sh.map List.length).foldr max 0, badr sh j = false) : bad sh = none := by
  unfold bad
  rw [List.find?_range_eq_none]
  exact fun j hj => by rw [Bool.not_eq_true']; exact h j hj
theorem max_is : ∀ {ns : List Nat} {m : Nat}, m ∈ ns → (∀ n ∈ ns, n ≤ m) → m = ns.foldr max 0
  | n :: ns, m, hm, h => by
    rw [List.foldr_cons]
    have hn := h n List.mem_cons_self
    have up : ∀ {l : List Nat}, (∀ n ∈ l, n ≤ m) → l.foldr max 0 ≤ m := fun {l} hl => by
      induction l with
      | nil => exact Nat.zero_le _
      | cons x l ih =>
        rw [List.foldr_cons]
        have := hl x List.mem_cons_self
        have := ih fun y hy => hl y (List.mem_cons_of_mem _ hy)
        omega
    have low : ∀ {l : List Nat}, m ∈ l → m ≤ l.foldr max 0 := fun {l} hl => by
      induction l with
      | nil => cases hl
      | cons x l ih =>
        rw [List.foldr_cons]
        rcases List.mem_cons.mp hl with e | e
        · omega
        · have := ih e
          omega
    have := low hm
    rw [List.foldr_cons] at this
    have := up h
    rw [List.foldr_cons] at this
    omega
theorem at0 {α : Type} {x : α} {xs : List α} : atI (x :: xs) (0 : Int) = some x := atI_nat (j := 0) rfl
theorem i_cellO {s : List Nat} {i : Nat} : ((iL s)[i]?).getD .non = cellO i s := by
  unfold cellO iL
  rw [List.getElem?_map]
  cases s[i]? <;> rfl
/-- how many are alike the first -/
theorem cnt_go {s : List Nat} {sh : List (List Nat)} {i : Nat} {Q : VQ} (h1 : badr (s :: sh) i = true → Q (.bl true) S) (h2 : badr (s :: sh) i = false → Q (.bl false) S) :
    (rcv "list" (.lst ((s :: sh).map (cellO i))) S ∧ oIx (.lst ((s :: sh).map (cellO i))) (.int 0) S fun d S1 => mCount (.lst ((s :: sh).map (cellO i))) [d] S1 fun x S2 => oLenB [.lst ((s :: sh).map (cellO i))] S2 fun y S3 => oEq true x y S3 Q) := by
  refine ⟨rcv_l rfl, ix_l rfl at0 ⟨_, _, rfl, rfl, flat_cellO, ?_, .inl (len_l rfl ?_)⟩⟩
  · rw [List.all_eq_true]
    intro x hx
    obtain ⟨t, _, rfl⟩ := List.mem_map.mp hx
    exact flat_cellO
  · rw [s_eq, List.length_map]
    have e := cnt_bad (s := s) (sh := sh) (r := i)
    cases hb : badr (s :: sh) i with
    | true =>
      have ne : ¬ ((((s :: sh).map (cellO i)).countP fun z => eqF z (cellO i s) : Nat) : Int) = (((s :: sh).length : Nat) : Int) := fun q => by
        have := e.mp (by omega)
        rw [hb] at this
        cases this
      rw [decide_eq_false ne]
      exact h1 hb
    | false =>
      have q : ((((s :: sh).map (cellO i)).countP fun z => eqF z (cellO i s) : Nat) : Int) = (((s :: sh).length : Nat) : Int) := by
        rw [e.mpr hb]
      rw [decide_eq_true q]
      exact h2 hb
theorem p_law_unlike (c : SaysB fa fn K.K) (h : A_law_unlike K ds S Q E) : w_law_unlike K (fun c p _ S' => E c p S') { nx := fun _ S' => Q .non S', rt := Q } (startD ["_law_some", "_law_row", "_law_here", "_law_one"] ds) S := by
  obtain ⟨ss, rfl, hne, hl, hb, q⟩ := h
  obtain ⟨s0, sr, rfl⟩ := List.exists_cons_of_ne_nil hne
  generalize hss : s0 :: sr = ss at *
  unfold w_law_unlike
  simp only [s_seq, s_set, s_next, s_cont, s_break, s_expr, s_retN, s_var, s_c, s_op, s_nil, s_cons, s_cb, s_call, s_tup, s_lst, s_sub, s_bm, s_aug, s_asg, s_sl, s_nopart, s_part, s_ret, s_ifs, s_if, s_test, s_not, s_and, s_or, s_andV, s_orV, s_notV, s_oI, s_add, s_mul, s_cmp, s_cmps, s_eq, s_eqs, s_eqb, s_lc, s_for, s_ex, s_pn, s_pc, s_disp, s_r1, s_r2, s_e, s_z, wipeD, s_setdN, s_tcount, s_xget, s_get, s_fld, s_meth, s_make, s_raise, s_raiseI, s_dget2, List.getElem?_cons_zero, List.getElem?_cons_succ, List.set_cons_zero, List.set_cons_succ, Option.some.injEq, exists_eq_left', exists_eq_left, startD, List.map_cons, List.map_nil, List.length_cons, List.length_nil, List.replicate_succ, List.replicate_zero, List.append_nil, List.cons_append, List.nil_append, D.bl.injEq, D.int.injEq, D.str.injEq, D.tupz.injEq, D.ref.injEq, decide_eq_true_eq, decide_eq_false_iff_not, Bool.bne_false, Bool.bne_true, Nat.reduceAdd, Nat.reduceSub, Nat.reduceLeDiff, reduceCtorEq, true_and, and_true, false_implies, true_implies, imp_self, Bool.false_eq_true, forall_const]
  refine ⟨false, wi_l ?_⟩
  simp only [s_seq, s_set, s_next, s_cont, s_break, s_expr, s_retN, s_var, s_c, s_op, s_nil, s_cons, s_cb, s_call, s_tup, s_lst, s_sub, s_bm, s_aug, s_asg, s_sl, s_nopart, s_part, s_ret, s_ifs, s_if, s_test, s_not, s_and, s_or, s_andV, s_orV, s_notV, s_oI, s_add, s_mul, s_cmp, s_cmps, s_eq, s_eqs, s_eqb, s_lc, s_for, s_ex, s_pn, s_pc, s_disp, s_r1, s_r2, s_e, s_z, wipeD, s_setdN, s_tcount, s_xget, s_get, s_fld, s_meth, s_make, s_raise, s_raiseI, s_dget2, List.getElem?_cons_zero, List.getElem?_cons_succ, List.set_cons_zero, List.set_cons_succ, Option.some.injEq, exists_eq_left', exists_eq_left, startD, List.map_cons, List.map_nil, List.length_cons, List.length_nil, List.replicate_succ, List.replicate_zero, List.append_nil, List.cons_append, List.nil_append, D.bl.injEq, D.int.injEq, D.str.injEq, D.tupz.injEq, D.ref.injEq, decide_eq_true_eq, decide_eq_false_iff_not, Bool.bne_false, Bool.bne_true, Nat.reduceAdd, Nat.reduceSub, Nat.reduceLeDiff, reduceCtorEq, true_and, and_true, false_implies, true_implies, imp_self, Bool.false_eq_true, forall_const]
  refine ⟨_, rfl, fun hz => ?_⟩
  refine lc_map (fun x => .int (((asL S x).getD []).length : Nat)) (fun b us hb => rfl) (fun x hx b us hb' => ⟨_, rfl, fun Q' hQ => ?_⟩) hz ?_
  · simp only [s_seq, s_set, s_next, s_cont, s_break, s_expr, s_retN, s_var, s_c, s_op, s_nil, s_cons, s_cb, s_call, s_tup, s_lst, s_sub, s_bm, s_aug, s_asg, s_sl, s_nopart, s_part, s_ret, s_ifs, s_if, s_test, s_not, s_and, s_or, s_andV, s_orV, s_notV, s_oI, s_add, s_mul, s_cmp, s_cmps, s_eq, s_eqs, s_eqb, s_lc, s_for, s_ex, s_pn, s_pc, s_disp, s_r1, s_r2, s_e, s_z, wipeD, s_setdN, s_tcount, s_xget, s_get, s_fld, s_meth, s_make, s_raise, s_raiseI, s_dget2, List.getElem?_cons_zero, List.getElem?_cons_succ, List.set_cons_zero, List.set_cons_succ, Option.some.injEq, exists_eq_left', exists_eq_left, startD, List.map_cons, List.map_nil, List.length_cons, List.length_nil, List.replicate_succ, List.replicate_zero, List.append_nil, List.cons_append, List.nil_append, D.bl.injEq, D.int.injEq, D.str.injEq, D.tupz.injEq, D.ref.injEq, decide_eq_true_eq, decide_eq_false_iff_not, Bool.bne_false, Bool.bne_true, Nat.reduceAdd, Nat.reduceSub, Nat.reduceLeDiff, reduceCtorEq, true_and, and_true, false_implies, true_implies, imp_self, Bool.false_eq_true, forall_const]
    obtain ⟨s, _, rfl⟩ := List.mem_map.mp hx
    exact .inl (len_l rfl hQ)
  refine ⟨_, ss.map fun s => (s.length : Int), rfl, ?_, ?_, fun m hm hmax => ?_⟩
  · show some _ = some _
    rw [List.map_map, List.map_map]
    congr 1
    refine List.map_congr_left fun s _ => ?_
    show D.int ((iL s).length : Nat) = D.int (s.length : Nat)
    rw [List.length_map]
  · rw [List.length_map, ← hss]; exact Nat.succ_pos _
  obtain ⟨sm, hsm, rfl⟩ := List.mem_map.mp hm
  have hM : sm.length = (ss.map List.length).foldr max 0 := max_is (List.mem_map_of_mem hsm) fun n hn => by
    obtain ⟨t, ht, rfl⟩ := List.mem_map.mp hn
    have := hmax _ (List.mem_map_of_mem (f := fun s : List Nat => (s.length : Int)) ht)
    omega
  have hsl := hb sm hsm
  refine ⟨_, rfl, by omega, by omega, ?_⟩
  rw [Int.toNat_natCast]
  refine ⟨fun i ρ S' => S' = S ∧ (∀ j < i, badr ss j = false) ∧ ∃ y z, ρ = [some (.lst (ss.map fun s => .lst (iL s))), y, z, none], ⟨rfl, fun j hj => absurd hj (Nat.not_lt_zero _), none, none, rfl⟩, fun i ρ S' _ _ => trivial, fun i d ρ S' hd ⟨e, hbad, y, z, er⟩ => ?_, fun ρ S' ⟨e, hbad, y, z, er⟩ => ?_⟩
  · subst e er
    obtain ⟨hi, rfl⟩ := rangeD_get hd
    refine ⟨_, rfl, ?_⟩
    simp only [s_seq, s_set, s_next, s_cont, s_break, s_expr, s_retN, s_var, s_c, s_op, s_nil, s_cons, s_cb, s_call, s_tup, s_lst, s_sub, s_bm, s_aug, s_asg, s_sl, s_nopart, s_part, s_ret, s_ifs, s_if, s_test, s_not, s_and, s_or, s_andV, s_orV, s_notV, s_oI, s_add, s_mul, s_cmp, s_cmps, s_eq, s_eqs, s_eqb, s_lc, s_for, s_ex, s_pn, s_pc, s_disp, s_r1, s_r2, s_e, s_z, wipeD, s_setdN, s_tcount, s_xget, s_get, s_fld, s_meth, s_make, s_raise, s_raiseI, s_dget2, List.getElem?_cons_zero, List.getElem?_cons_succ, List.set_cons_zero, List.set_cons_succ, Option.some.injEq, exists_eq_left', exists_eq_left, startD, List.map_cons, List.map_nil, List.length_cons, List.length_nil, List.replicate_succ, List.replicate_zero, List.append_nil, List.cons_append, List.nil_append, D.bl.injEq, D.int.injEq, D.str.injEq, D.tupz.injEq, D.ref.injEq, decide_eq_true_eq, decide_eq_false_iff_not, Bool.bne_false, Bool.bne_true, Nat.reduceAdd, Nat.reduceSub, Nat.reduceLeDiff, reduceCtorEq, true_and, and_true, false_implies, true_implies, imp_self, Bool.false_eq_true, forall_const, Int.zero_add]
    refine ⟨false, wi_l ?_⟩
    simp only [s_seq, s_set, s_next, s_cont, s_break, s_expr, s_retN, s_var, s_c, s_op, s_nil, s_cons, s_cb, s_call, s_tup, s_lst, s_sub, s_bm, s_aug, s_asg, s_sl, s_nopart, s_part, s_ret, s_ifs, s_if, s_test, s_not, s_and, s_or, s_andV, s_orV, s_notV, s_oI, s_add, s_mul, s_cmp, s_cmps, s_eq, s_eqs, s_eqb, s_lc, s_for, s_ex, s_pn, s_pc, s_disp, s_r1, s_r2, s_e, s_z, wipeD, s_setdN, s_tcount, s_xget, s_get, s_fld, s_meth, s_make, s_raise, s_raiseI, s_dget2, List.getElem?_cons_zero, List.getElem?_cons_succ, List.set_cons_zero, List.set_cons_succ, Option.some.injEq, exists_eq_left', exists_eq_left, startD, List.map_cons, List.map_nil, List.length_cons, List.length_nil, List.replicate_succ, List.replicate_zero, List.append_nil, List.cons_append, List.nil_append, D.bl.injEq, D.int.injEq, D.str.injEq, D.tupz.injEq, D.ref.injEq, decide_eq_true_eq, decide_eq_false_iff_not, Bool.bne_false, Bool.bne_true, Nat.reduceAdd, Nat.reduceSub, Nat.reduceLeDiff, reduceCtorEq, true_and, and_true, false_implies, true_implies, imp_self, Bool.false_eq_true, forall_const]
    refine ⟨_, rfl, fun hz => ?_⟩
    refine lc_map (fun x => (((asL S' x).getD [])[i]?).getD .non) (fun b us hb => rfl) (fun x hx b us hb' => ⟨_, rfl, fun Q' hQ => ?_⟩) hz ?_
    · simp only [s_seq, s_set, s_next, s_cont, s_break, s_expr, s_retN, s_var, s_c, s_op, s_nil, s_cons, s_cb, s_call, s_tup, s_lst, s_sub, s_bm, s_aug, s_asg, s_sl, s_nopart, s_part, s_ret, s_ifs, s_if, s_test, s_not, s_and, s_or, s_andV, s_orV, s_notV, s_oI, s_add, s_mul, s_cmp, s_cmps, s_eq, s_eqs, s_eqb, s_lc, s_for, s_ex, s_pn, s_pc, s_disp, s_r1, s_r2, s_e, s_z, wipeD, s_setdN, s_tcount, s_xget, s_get, s_fld, s_meth, s_make, s_raise, s_raiseI, s_dget2, List.getElem?_cons_zero, List.getElem?_cons_succ, List.set_cons_zero, List.set_cons_succ, Option.some.injEq, exists_eq_left', exists_eq_left, startD, List.map_cons, List.map_nil, List.length_cons, List.length_nil, List.replicate_succ, List.replicate_zero, List.append_nil, List.cons_append, List.nil_append, D.bl.injEq, D.int.injEq, D.str.injEq, D.tupz.injEq, D.ref.injEq, decide_eq_true_eq, decide_eq_false_iff_not, Bool.bne_false, Bool.bne_true, Nat.reduceAdd, Nat.reduceSub, Nat.reduceLeDiff, reduceCtorEq, true_and, and_true, false_implies, true_implies, imp_self, Bool.false_eq_true, forall_const]
      obtain ⟨s, _, rfl⟩ := List.mem_map.mp hx
      refine .inl (len_l rfl ?_)
      simp only [s_seq, s_set, s_next, s_cont, s_break, s_expr, s_retN, s_var, s_c, s_op, s_nil, s_cons, s_cb, s_call, s_tup, s_lst, s_sub, s_bm, s_aug, s_asg, s_sl, s_nopart, s_part, s_ret, s_ifs, s_if, s_test, s_not, s_and, s_or, s_andV, s_orV, s_notV, s_oI, s_add, s_mul, s_cmp, s_cmps, s_eq, s_eqs, s_eqb, s_lc, s_for, s_ex, s_pn, s_pc, s_disp, s_r1, s_r2, s_e, s_z, wipeD, s_setdN, s_tcount, s_xget, s_get, s_fld, s_meth, s_make, s_raise, s_raiseI, s_dget2, List.getElem?_cons_zero, List.getElem?_cons_succ, List.set_cons_zero, List.set_cons_succ, Option.some.injEq, exists_eq_left', exists_eq_left, startD, List.map_cons, List.map_nil, List.length_cons, List.length_nil, List.replicate_succ, List.replicate_zero, List.append_nil, List.cons_append, List.nil_append, D.bl.injEq, D.int.injEq, D.str.injEq, D.tupz.injEq, D.ref.injEq, decide_eq_true_eq, decide_eq_false_iff_not, Bool.bne_false, Bool.bne_true, Nat.reduceAdd, Nat.reduceSub, Nat.reduceLeDiff, reduceCtorEq, true_and, and_true, false_implies, true_implies, imp_self, Bool.false_eq_true, forall_const]
      rw [List.length_map]
      refine ⟨fun h => ?_, fun h => ?_⟩
      · have hi' : i < (iL s).length := by rw [List.length_map]; omega
        refine ix_l rfl (atI_nat (List.getElem?_eq_getElem hi')) ?_
        have e : (((asL S' (.lst (iL s))).getD [])[i]?).getD .non = (iL s)[i] := by
          show ((iL s)[i]?).getD .non = _
          rw [List.getElem?_eq_getElem hi']; rfl
        rw [e] at hQ
        exact hQ
      · have e : (((asL S' (.lst (iL s))).getD [])[i]?).getD .non = .non := by
          show ((iL s)[i]?).getD .non = _
          rw [List.getElem?_eq_none (by rw [List.length_map]; omega)]; rfl
        rw [e] at hQ
        exact hQ
    · have e : (ss.map fun s => D.lst (iL s)).map (fun x => (((asL S' x).getD [])[i]?).getD .non) = ss.map (cellO i) := by
        rw [List.map_map]
        exact List.map_congr_left fun s _ => i_cellO
      rw [e]
      subst hss
      refine cnt_go (fun h => ⟨true, rfl, ⟨fun _ => ?_, fun h => (nomatch h)⟩⟩) (fun h => ⟨false, rfl, ⟨fun h => (nomatch h), fun _ => ⟨rfl, fun j hj => ?_, _, _, rfl⟩⟩⟩)
      · rw [hM] at hi
        rw [bad_some hbad hi h] at q
        exact ret_ q
      · rcases Nat.lt_succ_iff_lt_or_eq.mp hj with h' | h'
        · exact hbad j h'
        · rw [h']; exact h
  · subst e er
    rw [rangeD_length] at hbad
    rw [hM] at hbad
    rw [bad_none hbad] at q
    exact ret_ q
end
end N42
set_option Elab.async false
set_option linter.all false
set_option maxRecDepth 100000
set_option maxHeartbeats 4000000
namespace N42
open PySem PySem.Spec PyProof.Rows L2 KR
section
variable {K : Kx} {S S' : Store} {Q : VQ} {E : EQ} {ds : List D} {a : Addr}
theorem p_need_shape (c : SaysB fa fn K.K) (h : A_need_shape K ds S Q E) : w_need_shape K (fun c p _ S' => E c p S') { nx := fun _ S' => Q .non S', rt := Q } (startD ["forms", "row", "sizes", "form"] ds) S := by
  obtain ⟨ss, rfl, hne, hl, hb, q⟩ := h
  obtain ⟨s0, sr, rfl⟩ := List.exists_cons_of_ne_nil hne
  generalize hss : s0 :: sr = ss at *
  unfold w_need_shape
  simp only [s_seq, s_set, s_next, s_cont, s_break, s_expr, s_retN, s_var, s_c, s_op, s_nil, s_cons, s_cb, s_call, s_tup, s_lst, s_sub, s_bm, s_aug, s_asg, s_sl, s_nopart, s_part, s_ret, s_ifs, s_if, s_test, s_not, s_and, s_or, s_andV, s_orV, s_notV, s_oI, s_add, s_mul, s_cmp, s_cmps, s_eq, s_eqs, s_eqb, s_lc, s_for, s_ex, s_pn, s_pc, s_disp, s_r1, s_r2, s_e, s_z, wipeD, s_setdN, s_tcount, s_xget, s_get, s_fld, s_meth, s_make, s_raise, s_raiseI, s_dget2, List.getElem?_cons_zero, List.getElem?_cons_succ, List.set_cons_zero, List.set_cons_succ, Option.some.injEq, exists_eq_left', exists_eq_left, startD, List.map_cons, List.map_nil, List.length_cons, List.length_nil, List.replicate_succ, List.replicate_zero, List.append_nil, List.cons_append, List.nil_append, D.bl.injEq, D.int.injEq, D.str.injEq, D.tupz.injEq, D.ref.injEq, decide_eq_true_eq, decide_eq_false_iff_not, Bool.bne_false, Bool.bne_true, Nat.reduceAdd, Nat.reduceSub, Nat.reduceLeDiff, reduceCtorEq, true_and, and_true, false_implies, true_implies, imp_self, Bool.false_eq_true, forall_const]
  refine ⟨false, wi_l ?_⟩
  simp only [s_seq, s_set, s_next, s_cont, s_break, s_expr, s_retN, s_var, s_c, s_op, s_nil, s_cons, s_cb, s_call, s_tup, s_lst, s_sub, s_bm, s_aug, s_asg, s_sl, s_nopart, s_part, s_ret, s_ifs, s_if, s_test, s_not, s_and, s_or, s_andV, s_orV, s_notV, s_oI, s_add, s_mul, s_cmp, s_cmps, s_eq, s_eqs, s_eqb, s_lc, s_for, s_ex, s_pn, s_pc, s_disp, s_r1, s_r2, s_e, s_z, wipeD, s_setdN, s_tcount, s_xget, s_get, s_fld, s_meth, s_make, s_raise, s_raiseI, s_dget2, List.getElem?_cons_zero, List.getElem?_cons_succ, List.set_cons_zero, List.set_cons_succ, Option.some.injEq, exists_eq_left', exists_eq_left, startD, List.map_cons, List.map_nil, List.length_cons, List.length_nil, List.replicate_succ, List.replicate_zero, List.append_nil, List.cons_append, List.nil_append, D.bl.injEq, D.int.injEq, D.str.injEq, D.tupz.injEq, D.ref.injEq, decide_eq_true_eq, decide_eq_false_iff_not, Bool.bne_false, Bool.bne_true, Nat.reduceAdd, Nat.reduceSub, Nat.reduceLeDiff, reduceCtorEq, true_and, and_true, false_implies, true_implies, imp_self, Bool.false_eq_true, forall_const]
  refine ⟨_, rfl, fun hz => ?_⟩
  refine lc_map (fun x => .int (((asL S x).getD []).length : Nat)) (fun b us hb => rfl) (fun x hx b us hb' => ⟨_, rfl, fun Q' hQ => ?_⟩) hz ?_
  · simp only [s_seq, s_set, s_next, s_cont, s_break, s_expr, s_retN, s_var, s_c, s_op, s_nil, s_cons, s_cb, s_call, s_tup, s_lst, s_sub, s_bm, s_aug, s_asg, s_sl, s_nopart, s_part, s_ret, s_ifs, s_if, s_test, s_not, s_and, s_or, s_andV, s_orV, s_notV, s_oI, s_add, s_mul, s_cmp, s_cmps, s_eq, s_eqs, s_eqb, s_lc, s_for, s_ex, s_pn, s_pc, s_disp, s_r1, s_r2, s_e, s_z, wipeD, s_setdN, s_tcount, s_xget, s_get, s_fld, s_meth, s_make, s_raise, s_raiseI, s_dget2, List.getElem?_cons_zero, List.getElem?_cons_succ, List.set_cons_zero, List.set_cons_succ, Option.some.injEq, exists_eq_left', exists_eq_left, startD, List.map_cons, List.map_nil, List.length_cons, List.length_nil, List.replicate_succ, List.replicate_zero, List.append_nil, List.cons_append, List.nil_append, D.bl.injEq, D.int.injEq, D.str.injEq, D.tupz.injEq, D.ref.injEq, decide_eq_true_eq, decide_eq_false_iff_not, Bool.bne_false, Bool.bne_true, Nat.reduceAdd, Nat.reduceSub, Nat.reduceLeDiff, reduceCtorEq, true_and, and_true, false_implies, true_implies, imp_self, Bool.false_eq_true, forall_const]
    obtain ⟨s, _, rfl⟩ := List.mem_map.mp hx
    exact .inl (len_l rfl hQ)
  refine ⟨_, ss.map fun s => (s.length : Int), rfl, ?_, ?_, fun m hm hmax => ?_⟩
  · show some _ = some _
    rw [List.map_map, List.map_map]
    congr 1
    refine List.map_congr_left fun s _ => ?_
    show D.int ((rowsD s).length : Nat) = D.int (s.length : Nat)
    rw [List.length_map]
  · rw [List.length_map, ← hss]; exact Nat.succ_pos _
  obtain ⟨sm, hsm, rfl⟩ := List.mem_map.mp hm
  have hM : sm.length = ((ss.map shp).map List.length).foldr max 0 := max_is (by
      rw [List.map_map]
      exact List.mem_map.mpr ⟨sm, hsm, by show (shp sm).length = _; rw [List.length_map]⟩) fun n hn => by
    rw [List.map_map] at hn
    obtain ⟨t, ht, rfl⟩ := List.mem_map.mp hn
    have := hmax _ (List.mem_map_of_mem (f := fun s : List (List Str) => (s.length : Int)) ht)
    show (shp t).length ≤ _
    rw [List.length_map]
    omega
  have hsl := (hb sm hsm).1
  refine ⟨_, rfl, by omega, by omega, ?_⟩
  rw [Int.toNat_natCast]
  refine ⟨fun i ρ S' => S' = S ∧ (∀ j < i, badr (ss.map shp) j = false) ∧ ∃ y z, ρ = [some (.lst (ss.map stD)), y, z, none], ⟨rfl, fun j hj => absurd hj (Nat.not_lt_zero _), none, none, rfl⟩, fun i ρ S' _ _ => trivial, fun i d ρ S' hd ⟨e, hbad, y, z, er⟩ => ?_, fun ρ S' ⟨e, hbad, y, z, er⟩ => ?_⟩
  · subst e er
    obtain ⟨hi, rfl⟩ := rangeD_get hd
    refine ⟨_, rfl, ?_⟩
    simp only [s_seq, s_set, s_next, s_cont, s_break, s_expr, s_retN, s_var, s_c, s_op, s_nil, s_cons, s_cb, s_call, s_tup, s_lst, s_sub, s_bm, s_aug, s_asg, s_sl, s_nopart, s_part, s_ret, s_ifs, s_if, s_test, s_not, s_and, s_or, s_andV, s_orV, s_notV, s_oI, s_add, s_mul, s_cmp, s_cmps, s_eq, s_eqs, s_eqb, s_lc, s_for, s_ex, s_pn, s_pc, s_disp, s_r1, s_r2, s_e, s_z, wipeD, s_setdN, s_tcount, s_xget, s_get, s_fld, s_meth, s_make, s_raise, s_raiseI, s_dget2, List.getElem?_cons_zero, List.getElem?_cons_succ, List.set_cons_zero, List.set_cons_succ, Option.some.injEq, exists_eq_left', exists_eq_left, startD, List.map_cons, List.map_nil, List.length_cons, List.length_nil, List.replicate_succ, List.replicate_zero, List.append_nil, List.cons_append, List.nil_append, D.bl.injEq, D.int.injEq, D.str.injEq, D.tupz.injEq, D.ref.injEq, decide_eq_true_eq, decide_eq_false_iff_not, Bool.bne_false, Bool.bne_true, Nat.reduceAdd, Nat.reduceSub, Nat.reduceLeDiff, reduceCtorEq, true_and, and_true, false_implies, true_implies, imp_self, Bool.false_eq_true, forall_const, Int.zero_add]
    refine ⟨false, wi_l ?_⟩
    simp only [s_seq, s_set, s_next, s_cont, s_break, s_expr, s_retN, s_var, s_c, s_op, s_nil, s_cons, s_cb, s_call, s_tup, s_lst, s_sub, s_bm, s_aug, s_asg, s_sl, s_nopart, s_part, s_ret, s_ifs, s_if, s_test, s_not, s_and, s_or, s_andV, s_orV, s_notV, s_oI, s_add, s_mul, s_cmp, s_cmps, s_eq, s_eqs, s_eqb, s_lc, s_for, s_ex, s_pn, s_pc, s_disp, s_r1, s_r2, s_e, s_z, wipeD, s_setdN, s_tcount, s_xget, s_get, s_fld, s_meth, s_make, s_raise, s_raiseI, s_dget2, List.getElem?_cons_zero, List.getElem?_cons_succ, List.set_cons_zero, List.set_cons_succ, Option.some.injEq, exists_eq_left', exists_eq_left, startD, List.map_cons, List.map_nil, List.length_cons, List.length_nil, List.replicate_succ, List.replicate_zero, List.append_nil, List.cons_append, List.nil_append, D.bl.injEq, D.int.injEq, D.str.injEq, D.tupz.injEq, D.ref.injEq, decide_eq_true_eq, decide_eq_false_iff_not, Bool.bne_false, Bool.bne_true, Nat.reduceAdd, Nat.reduceSub, Nat.reduceLeDiff, reduceCtorEq, true_and, and_true, false_implies, true_implies, imp_self, Bool.false_eq_true, forall_const]
    refine ⟨_, rfl, fun hz => ?_⟩
    refine lc_map (fun x => match ((asL S' x).getD [])[i]? with | some y => .int (((asL S' y).getD []).length : Nat) | none => .non) (fun b us hb => rfl) (fun x hx b us hb' => ⟨_, rfl, fun Q' hQ => ?_⟩) hz ?_
    · simp only [s_seq, s_set, s_next, s_cont, s_break, s_expr, s_retN, s_var, s_c, s_op, s_nil, s_cons, s_cb, s_call, s_tup, s_lst, s_sub, s_bm, s_aug, s_asg, s_sl, s_nopart, s_part, s_ret, s_ifs, s_if, s_test, s_not, s_and, s_or, s_andV, s_orV, s_notV, s_oI, s_add, s_mul, s_cmp, s_cmps, s_eq, s_eqs, s_eqb, s_lc, s_for, s_ex, s_pn, s_pc, s_disp, s_r1, s_r2, s_e, s_z, wipeD, s_setdN, s_tcount, s_xget, s_get, s_fld, s_meth, s_make, s_raise, s_raiseI, s_dget2, List.getElem?_cons_zero, List.getElem?_cons_succ, List.set_cons_zero, List.set_cons_succ, Option.some.injEq, exists_eq_left', exists_eq_left, startD, List.map_cons, List.map_nil, List.length_cons, List.length_nil, List.replicate_succ, List.replicate_zero, List.append_nil, List.cons_append, List.nil_append, D.bl.injEq, D.int.injEq, D.str.injEq, D.tupz.injEq, D.ref.injEq, decide_eq_true_eq, decide_eq_false_iff_not, Bool.bne_false, Bool.bne_true, Nat.reduceAdd, Nat.reduceSub, Nat.reduceLeDiff, reduceCtorEq, true_and, and_true, false_implies, true_implies, imp_self, Bool.false_eq_true, forall_const]
      obtain ⟨s, _, rfl⟩ := List.mem_map.mp hx
      refine .inl (len_l rfl ?_)
      simp only [s_seq, s_set, s_next, s_cont, s_break, s_expr, s_retN, s_var, s_c, s_op, s_nil, s_cons, s_cb, s_call, s_tup, s_lst, s_sub, s_bm, s_aug, s_asg, s_sl, s_nopart, s_part, s_ret, s_ifs, s_if, s_test, s_not, s_and, s_or, s_andV, s_orV, s_notV, s_oI, s_add, s_mul, s_cmp, s_cmps, s_eq, s_eqs, s_eqb, s_lc, s_for, s_ex, s_pn, s_pc, s_disp, s_r1, s_r2, s_e, s_z, wipeD, s_setdN, s_tcount, s_xget, s_get, s_fld, s_meth, s_make, s_raise, s_raiseI, s_dget2, List.getElem?_cons_zero, List.getElem?_cons_succ, List.set_cons_zero, List.set_cons_succ, Option.some.injEq, exists_eq_left', exists_eq_left, startD, List.map_cons, List.map_nil, List.length_cons, List.length_nil, List.replicate_succ, List.replicate_zero, List.append_nil, List.cons_append, List.nil_append, D.bl.injEq, D.int.injEq, D.str.injEq, D.tupz.injEq, D.ref.injEq, decide_eq_true_eq, decide_eq_false_iff_not, Bool.bne_false, Bool.bne_true, Nat.reduceAdd, Nat.reduceSub, Nat.reduceLeDiff, reduceCtorEq, true_and, and_true, false_implies, true_implies, imp_self, Bool.false_eq_true, forall_const]
      rw [List.length_map]
      have hQ2 : Q' (match (rowsD s)[i]? with | some y => .int (((asL S' y).getD []).length : Nat) | none => .non) (KR.hd S' b us) := hQ
      refine ⟨fun h => ?_, fun h => ?_⟩
      · have hi' : i < s.length := by omega
        have e : (rowsD s)[i]? = some (.lst (sL s[i])) := by rw [List.getElem?_map, List.getElem?_eq_getElem hi']; rfl
        refine ix_l rfl (atI_nat e) (.inl (len_l rfl ?_))
        rw [e] at hQ2
        exact hQ2
      · rw [List.getElem?_eq_none (by rw [List.length_map]; omega)] at hQ2
        exact hQ2
    · have e : (ss.map stD).map (fun x => match ((asL S' x).getD [])[i]? with | some y => D.int (((asL S' y).getD []).length : Nat) | none => .non) = (ss.map shp).map (cellO i) := by
        rw [List.map_map, List.map_map]
        refine List.map_congr_left fun s _ => ?_
        show (match (rowsD s)[i]? with | some y => D.int (((asL S' y).getD []).length : Nat) | none => .non) = cellO i (shp s)
        unfold cellO shp rowsD
        rw [List.getElem?_map, List.getElem?_map]
        cases s[i]? with
        | none => rfl
        | some r =>
          show D.int ((sL r).length : Nat) = D.int (r.length : Nat)
          rw [List.length_map]
      rw [e]
      subst hss
      refine cnt_go (fun h => ⟨true, rfl, ⟨fun _ => ?_, fun h => (nomatch h)⟩⟩) (fun h => ⟨false, rfl, ⟨fun h => (nomatch h), fun _ => ⟨rfl, fun j hj => ?_, _, _, rfl⟩⟩⟩)
      · rw [hM] at hi
        rw [bad_some hbad hi h] at q
        have q2 : E (.ref (He.ga K.K "Shape")) (some ("row", .int (i : Int))) S' := q
        exact ⟨_, rfl, q2⟩
      · rcases Nat.lt_succ_iff_lt_or_eq.mp hj with h' | h'
        · exact hbad j h'
        · rw [h']; exact h
  · subst e er
    rw [rangeD_length] at hbad
    rw [hM] at hbad
    rw [bad_none hbad] at q
    exact q
theorem flat_len {α : Type} {b : Nat} : ∀ {s : List (List α)}, (∀ r ∈ s, r.length ≤ b) → s.flatten.length ≤ s.length * b
  | [], _ => by simp
  | r :: s, h => by
    have h1 := h r List.mem_cons_self
    have h2 := flat_len fun t ht => h t (List.mem_cons_of_mem _ ht)
    rw [List.flatten_cons, List.length_append, List.length_cons, Nat.add_mul]
    omega
theorem Small.flat {s : List (List Str)} (h : Small s) : s.flatten.length ≤ 1800 := by
  have := flat_len h.2.1
  have := h.1
  omega
theorem asL_sup_same {S : Store} {p : Addr} {xs : List D} : asL (sup S p (.lst xs)) (.ref p) = some xs := by
  show (match sup S p _ p with | some (.lst xs) => some xs | _ => none) = _
  rw [sup_same]
theorem p_items_of (c : SaysB fa fn K.K) (h : A_items_of K ds S Q E) : w_items_of K (fun c p _ S' => E c p S') { nx := fun _ S' => Q .non S', rt := Q } (startD ["rows", "found", "row"] ds) S := by
  obtain ⟨s, rfl, hs, q⟩ := h
  unfold w_items_of
  simp only [s_seq, s_set, s_next, s_cont, s_break, s_expr, s_retN, s_var, s_c, s_op, s_nil, s_cons, s_cb, s_call, s_tup, s_lst, s_sub, s_bm, s_aug, s_asg, s_sl, s_nopart, s_part, s_ret, s_ifs, s_if, s_test, s_not, s_and, s_or, s_andV, s_orV, s_notV, s_oI, s_add, s_mul, s_cmp, s_cmps, s_eq, s_eqs, s_eqb, s_lc, s_for, s_ex, s_pn, s_pc, s_disp, s_r1, s_r2, s_e, s_z, wipeD, s_setdN, s_tcount, s_xget, s_get, s_fld, s_meth, s_make, s_raise, s_raiseI, s_dget2, List.getElem?_cons_zero, List.getElem?_cons_succ, List.set_cons_zero, List.set_cons_succ, Option.some.injEq, exists_eq_left', exists_eq_left, startD, List.map_cons, List.map_nil, List.length_cons, List.length_nil, List.replicate_succ, List.replicate_zero, List.append_nil, List.cons_append, List.nil_append, D.bl.injEq, D.int.injEq, D.str.injEq, D.tupz.injEq, D.ref.injEq, decide_eq_true_eq, decide_eq_false_iff_not, Bool.bne_false, Bool.bne_true, Nat.reduceAdd, Nat.reduceSub, Nat.reduceLeDiff, reduceCtorEq, true_and, and_true, false_implies, true_implies, imp_self, Bool.false_eq_true, forall_const]
  refine ⟨by decide, .inr fun p hp => ?_⟩
  refine wi_l ?_
  simp only [s_seq, s_set, s_next, s_cont, s_break, s_expr, s_retN, s_var, s_c, s_op, s_nil, s_cons, s_cb, s_call, s_tup, s_lst, s_sub, s_bm, s_aug, s_asg, s_sl, s_nopart, s_part, s_ret, s_ifs, s_if, s_test, s_not, s_and, s_or, s_andV, s_orV, s_notV, s_oI, s_add, s_mul, s_cmp, s_cmps, s_eq, s_eqs, s_eqb, s_lc, s_for, s_ex, s_pn, s_pc, s_disp, s_r1, s_r2, s_e, s_z, wipeD, s_setdN, s_tcount, s_xget, s_get, s_fld, s_meth, s_make, s_raise, s_raiseI, s_dget2, List.getElem?_cons_zero, List.getElem?_cons_succ, List.set_cons_zero, List.set_cons_succ, Option.some.injEq, exists_eq_left', exists_eq_left, startD, List.map_cons, List.map_nil, List.length_cons, List.length_nil, List.replicate_succ, List.replicate_zero, List.append_nil, List.cons_append, List.nil_append, D.bl.injEq, D.int.injEq, D.str.injEq, D.tupz.injEq, D.ref.injEq, decide_eq_true_eq, decide_eq_false_iff_not, Bool.bne_false, Bool.bne_true, Nat.reduceAdd, Nat.reduceSub, Nat.reduceLeDiff, reduceCtorEq, true_and, and_true, false_implies, true_implies, imp_self, Bool.false_eq_true, forall_const]
  refine ⟨_, rfl, fun hz => ?_⟩
  refine ⟨fun i ρ S' => S' = sup S p (.lst (sL (s.take i).flatten)) ∧ ∃ y, ρ = [some (stD s), some (.ref p), y], ⟨rfl, none, rfl⟩, fun i ρ S' _ ⟨e, _⟩ => by rw [e]; rfl, fun i x ρ S' hx ⟨e, y, er⟩ => ?_, fun ρ S' ⟨e, y, er⟩ => ?_⟩
  · subst e er
    rw [List.getElem?_map] at hx
    obtain ⟨r, hr, rfl⟩ := Option.map_eq_some_iff.mp hx
    refine ⟨_, rfl, ?_⟩
    simp only [s_seq, s_set, s_next, s_cont, s_break, s_expr, s_retN, s_var, s_c, s_op, s_nil, s_cons, s_cb, s_call, s_tup, s_lst, s_sub, s_bm, s_aug, s_asg, s_sl, s_nopart, s_part, s_ret, s_ifs, s_if, s_test, s_not, s_and, s_or, s_andV, s_orV, s_notV, s_oI, s_add, s_mul, s_cmp, s_cmps, s_eq, s_eqs, s_eqb, s_lc, s_for, s_ex, s_pn, s_pc, s_disp, s_r1, s_r2, s_e, s_z, wipeD, s_setdN, s_tcount, s_xget, s_get, s_fld, s_meth, s_make, s_raise, s_raiseI, s_dget2, List.getElem?_cons_zero, List.getElem?_cons_succ, List.set_cons_zero, List.set_cons_succ, Option.some.injEq, exists_eq_left', exists_eq_left, startD, List.map_cons, List.map_nil, List.length_cons, List.length_nil, List.replicate_succ, List.replicate_zero, List.append_nil, List.cons_append, List.nil_append, D.bl.injEq, D.int.injEq, D.str.injEq, D.tupz.injEq, D.ref.injEq, decide_eq_true_eq, decide_eq_false_iff_not, Bool.bne_false, Bool.bne_true, Nat.reduceAdd, Nat.reduceSub, Nat.reduceLeDiff, reduceCtorEq, true_and, and_true, false_implies, true_implies, imp_self, Bool.false_eq_true, forall_const]
    have e : (s.take (i + 1)).flatten = (s.take i).flatten ++ r := by rw [take_snoc hr, List.flatten_append]; simp
    have hl : (s.take (i + 1)).flatten.length ≤ s.flatten.length := by
      have : s.flatten = (s.take (i + 1)).flatten ++ (s.drop (i + 1)).flatten := by rw [← List.flatten_append, List.take_append_drop]
      rw [this, List.length_append]
      omega
    have hf := hs.flat
    refine ⟨rcv_l asL_sup_same, p, _, _, _, rfl, rfl, sup_same, rfl, ?_, ?_⟩
    · rw [List.length_map, List.length_map, ← List.length_append, ← e, sizeLine_eq]; omega
    · refine ⟨?_, some (.lst (sL r)), rfl⟩
      rw [sup_sup, e]
      show _ = sup S p (.lst (((s.take i).flatten ++ r).map .str))
      rw [List.map_append]
  · subst e er
    rw [List.length_map, List.take_length]
    simp only [s_seq, s_set, s_next, s_cont, s_break, s_expr, s_retN, s_var, s_c, s_op, s_nil, s_cons, s_cb, s_call, s_tup, s_lst, s_sub, s_bm, s_aug, s_asg, s_sl, s_nopart, s_part, s_ret, s_ifs, s_if, s_test, s_not, s_and, s_or, s_andV, s_orV, s_notV, s_oI, s_add, s_mul, s_cmp, s_cmps, s_eq, s_eqs, s_eqb, s_lc, s_for, s_ex, s_pn, s_pc, s_disp, s_r1, s_r2, s_e, s_z, wipeD, s_setdN, s_tcount, s_xget, s_get, s_fld, s_meth, s_make, s_raise, s_raiseI, s_dget2, List.getElem?_cons_zero, List.getElem?_cons_succ, List.set_cons_zero, List.set_cons_succ, Option.some.injEq, exists_eq_left', exists_eq_left, startD, List.map_cons, List.map_nil, List.length_cons, List.length_nil, List.replicate_succ, List.replicate_zero, List.append_nil, List.cons_append, List.nil_append, D.bl.injEq, D.int.injEq, D.str.injEq, D.tupz.injEq, D.ref.injEq, decide_eq_true_eq, decide_eq_false_iff_not, Bool.bne_false, Bool.bne_true, Nat.reduceAdd, Nat.reduceSub, Nat.reduceLeDiff, reduceCtorEq, true_and, and_true, false_implies, true_implies, imp_self, Bool.false_eq_true, forall_const]
    exact ret_frz hp q
theorem fr_new {p : Addr} (hp : S p = none) : Fr S (sup S p (.lst [])) p [] := ⟨[], List.nodup_nil, List.not_mem_nil, hp, fun b hb => absurd hb List.not_mem_nil, sup_same, .nil, fun b hb _ => sup_ne hb⟩
theorem fr_get {p : Addr} {rs : List (List D)} (h : Fr S S' p rs) : ∃ as : List Addr, S' p = some (.lst (as.map .ref)) ∧ as.length = rs.length := by
  obtain ⟨as, _, _, _, _, h5, h6, _⟩ := h
  exact ⟨as, h5, Paired.length h6⟩
theorem fr_snoc {p b : Addr} {rs : List (List D)} {r : List D} {as : List Addr} (h : Fr S S' p rs) (hb : S' b = none) (ha : S' p = some (.lst (as.map .ref))) : Fr S (sup (sup S' b (.lst r)) p (.lst (as.map .ref ++ [.ref b]))) p (rs ++ [r]) := by
  obtain ⟨as', h1, h2, h3, h4, h5, h6, h7⟩ := h
  have e : as' = as := by
    rw [ha] at h5
    have e := Cell.lst.inj (Option.some.inj h5)
    exact (List.map_inj_right (f := D.ref) (fun x y h => by cases h; rfl)).mp e.symm
  subst e
  have hbp : b ≠ p := fun e => by rw [e, h5] at hb; cases hb
  have hba : b ∉ as' := fun hm => by
    obtain ⟨i, hi, e⟩ := List.getElem_of_mem hm
    obtain ⟨r', _, hr⟩ := L2.paired_get h6 (List.getElem?_eq_getElem hi)
    rw [e, hb] at hr
    cases hr
  have hSb : S b = none := by rw [← h7 b hbp hba]; exact hb
  refine ⟨as' ++ [b], ?_, ?_, h3, ?_, ?_, ?_, ?_⟩
  · rw [List.nodup_append]
    exact ⟨h1, by simp, fun x hx y hy => by rw [List.mem_singleton.mp hy]; exact fun e => hba (e ▸ hx)⟩
  · intro hm
    rcases List.mem_append.mp hm with hm | hm
    · exact h2 hm
    · exact hbp (List.mem_singleton.mp hm).symm
  · intro x hx
    rcases List.mem_append.mp hx with hx | hx
    · exact h4 x hx
    · rw [List.mem_singleton.mp hx]; exact hSb
  · rw [sup_same, List.map_append]; rfl
  · refine Paired.snoc ?_ (by rw [sup_ne hbp, sup_same])
    have : ∀ x ∈ as', ∀ r', S' x = some (.lst r') → sup (sup S' b (.lst r)) p (.lst (as'.map .ref ++ [.ref b])) x = some (.lst r') := fun x hx r' hr => by
      have n1 : x ≠ p := fun e => h2 (by rw [← e]; exact hx)
      have n2 : x ≠ b := fun e => hba (by rw [← e]; exact hx)
      rw [sup_ne n1, sup_ne n2]
      exact hr
    clear h1 h2 h3 h4 h5 h7 ha hba
    have go : ∀ {as'' : List Addr} {rs : List (List D)}, (∀ x ∈ as'', x ∈ as') → Paired (fun b r => S' b = some (.lst r)) as'' rs → Paired (fun x r' => sup (sup S' b (.lst r)) p (.lst (as'.map .ref ++ [.ref b])) x = some (.lst r')) as'' rs := by
      intro as'' rs hsub hp
      induction hp with
      | nil => exact .nil
      | cons h t ih => exact .cons (this _ (hsub _ List.mem_cons_self) _ h) (ih fun x hx => hsub x (List.mem_cons_of_mem _ hx))
    exact go (fun x hx => hx) h6
  · intro x hx hm
    have n2 : x ≠ b := fun e => hm (by rw [e]; exact List.mem_append_right _ (List.mem_singleton.mpr rfl))
    rw [sup_ne hx, sup_ne n2]
    exact h7 x hx fun h => hm (List.mem_append_left _ h)
theorem p_in_rows (c : SaysB fa fn K.K) (h : A_in_rows K ds S Q E) : w_in_rows K (fun c p _ S' => E c p S') { nx := fun _ S' => Q .non S', rt := Q } (startD ["items", "like", "found", "at", "row"] ds) S := by
  obtain ⟨xs, s, rfl, hx, hs, q⟩ := h
  unfold w_in_rows
  simp only [s_seq, s_set, s_next, s_cont, s_break, s_expr, s_retN, s_var, s_c, s_op, s_nil, s_cons, s_cb, s_call, s_tup, s_lst, s_sub, s_bm, s_aug, s_asg, s_sl, s_nopart, s_part, s_ret, s_ifs, s_if, s_test, s_not, s_and, s_or, s_andV, s_orV, s_notV, s_oI, s_add, s_mul, s_cmp, s_cmps, s_eq, s_eqs, s_eqb, s_lc, s_for, s_ex, s_pn, s_pc, s_disp, s_r1, s_r2, s_e, s_z, wipeD, s_setdN, s_tcount, s_xget, s_get, s_fld, s_meth, s_make, s_raise, s_raiseI, s_dget2, List.getElem?_cons_zero, List.getElem?_cons_succ, List.set_cons_zero, List.set_cons_succ, Option.some.injEq, exists_eq_left', exists_eq_left, startD, List.map_cons, List.map_nil, List.length_cons, List.length_nil, List.replicate_succ, List.replicate_zero, List.append_nil, List.cons_append, List.nil_append, D.bl.injEq, D.int.injEq, D.str.injEq, D.tupz.injEq, D.ref.injEq, decide_eq_true_eq, decide_eq_false_iff_not, Bool.bne_false, Bool.bne_true, Nat.reduceAdd, Nat.reduceSub, Nat.reduceLeDiff, reduceCtorEq, true_and, and_true, false_implies, true_implies, imp_self, Bool.false_eq_true, forall_const]
  refine ⟨by decide, .inr fun p hp => ?_⟩
  refine wi_l ?_
  simp only [s_seq, s_set, s_next, s_cont, s_break, s_expr, s_retN, s_var, s_c, s_op, s_nil, s_cons, s_cb, s_call, s_tup, s_lst, s_sub, s_bm, s_aug, s_asg, s_sl, s_nopart, s_part, s_ret, s_ifs, s_if, s_test, s_not, s_and, s_or, s_andV, s_orV, s_notV, s_oI, s_add, s_mul, s_cmp, s_cmps, s_eq, s_eqs, s_eqb, s_lc, s_for, s_ex, s_pn, s_pc, s_disp, s_r1, s_r2, s_e, s_z, wipeD, s_setdN, s_tcount, s_xget, s_get, s_fld, s_meth, s_make, s_raise, s_raiseI, s_dget2, List.getElem?_cons_zero, List.getElem?_cons_succ, List.set_cons_zero, List.set_cons_succ, Option.some.injEq, exists_eq_left', exists_eq_left, startD, List.map_cons, List.map_nil, List.length_cons, List.length_nil, List.replicate_succ, List.replicate_zero, List.append_nil, List.cons_append, List.nil_append, D.bl.injEq, D.int.injEq, D.str.injEq, D.tupz.injEq, D.ref.injEq, decide_eq_true_eq, decide_eq_false_iff_not, Bool.bne_false, Bool.bne_true, Nat.reduceAdd, Nat.reduceSub, Nat.reduceLeDiff, reduceCtorEq, true_and, and_true, false_implies, true_implies, imp_self, Bool.false_eq_true, forall_const]
  refine ⟨_, rfl, fun _ => ?_⟩
  refine ⟨fun i ρ S' => Fr S S' p ((cutL xs (shp s)).take i) ∧ ∃ y, ρ = [some (.lst xs), some (stD s), some (.ref p), some (.int (((shp s).take i).sum : Nat)), y], ⟨fr_new hp, none, rfl⟩, fun i ρ S' _ _ => rfl, fun i d ρ S' hd ⟨hf, y, er⟩ => ?_, fun ρ S' ⟨hf, y, er⟩ => ?_⟩
  · subst er
    rw [List.getElem?_map] at hd
    obtain ⟨r, hr, rfl⟩ := Option.map_eq_some_iff.mp hd
    have hn : (shp s)[i]? = some r.length := by rw [List.getElem?_map, hr]; rfl
    have hi := (List.getElem?_eq_some_iff.mp hr).1
    have hs1 := hs.1
    refine ⟨_, rfl, ?_⟩
    simp only [s_seq, s_set, s_next, s_cont, s_break, s_expr, s_retN, s_var, s_c, s_op, s_nil, s_cons, s_cb, s_call, s_tup, s_lst, s_sub, s_bm, s_aug, s_asg, s_sl, s_nopart, s_part, s_ret, s_ifs, s_if, s_test, s_not, s_and, s_or, s_andV, s_orV, s_notV, s_oI, s_add, s_mul, s_cmp, s_cmps, s_eq, s_eqs, s_eqb, s_lc, s_for, s_ex, s_pn, s_pc, s_disp, s_r1, s_r2, s_e, s_z, wipeD, s_setdN, s_tcount, s_xget, s_get, s_fld, s_meth, s_make, s_raise, s_raiseI, s_dget2, List.getElem?_cons_zero, List.getElem?_cons_succ, List.set_cons_zero, List.set_cons_succ, Option.some.injEq, exists_eq_left', exists_eq_left, startD, List.map_cons, List.map_nil, List.length_cons, List.length_nil, List.replicate_succ, List.replicate_zero, List.append_nil, List.cons_append, List.nil_append, D.bl.injEq, D.int.injEq, D.str.injEq, D.tupz.injEq, D.ref.injEq, decide_eq_true_eq, decide_eq_false_iff_not, Bool.bne_false, Bool.bne_true, Nat.reduceAdd, Nat.reduceSub, Nat.reduceLeDiff, reduceCtorEq, true_and, and_true, false_implies, true_implies, imp_self, Bool.false_eq_true, forall_const]
    obtain ⟨as, ha, hal⟩ := fr_get hf
    have e1 : asL S' (.ref p) = some (as.map .ref) := by
      show (match S' p with | some (.lst xs) => some xs | _ => none) = _
      rw [ha]
    refine ⟨rcv_l e1, .inl (len_l rfl ?_)⟩
    simp only [s_seq, s_set, s_next, s_cont, s_break, s_expr, s_retN, s_var, s_c, s_op, s_nil, s_cons, s_cb, s_call, s_tup, s_lst, s_sub, s_bm, s_aug, s_asg, s_sl, s_nopart, s_part, s_ret, s_ifs, s_if, s_test, s_not, s_and, s_or, s_andV, s_orV, s_notV, s_oI, s_add, s_mul, s_cmp, s_cmps, s_eq, s_eqs, s_eqb, s_lc, s_for, s_ex, s_pn, s_pc, s_disp, s_r1, s_r2, s_e, s_z, wipeD, s_setdN, s_tcount, s_xget, s_get, s_fld, s_meth, s_make, s_raise, s_raiseI, s_dget2, List.getElem?_cons_zero, List.getElem?_cons_succ, List.set_cons_zero, List.set_cons_succ, Option.some.injEq, exists_eq_left', exists_eq_left, startD, List.map_cons, List.map_nil, List.length_cons, List.length_nil, List.replicate_succ, List.replicate_zero, List.append_nil, List.cons_append, List.nil_append, D.bl.injEq, D.int.injEq, D.str.injEq, D.tupz.injEq, D.ref.injEq, decide_eq_true_eq, decide_eq_false_iff_not, Bool.bne_false, Bool.bne_true, Nat.reduceAdd, Nat.reduceSub, Nat.reduceLeDiff, reduceCtorEq, true_and, and_true, false_implies, true_implies, imp_self, Bool.false_eq_true, forall_const]
    rw [List.length_map]
    unfold oSlB
    refine .inr fun b hb => ?_
    rw [cutD_nat]
    have hbp : b ≠ p := fun e => by rw [e, ha] at hb; cases hb
    refine ⟨p, as.map .ref, _, rfl, rfl, by rw [sup_ne (Ne.symm hbp)]; exact ha, ?_, .inl (len_l rfl ?_)⟩
    · rw [List.length_map, hal, List.length_take, sizeLine_eq]
      omega
    · simp only [s_seq, s_set, s_next, s_cont, s_break, s_expr, s_retN, s_var, s_c, s_op, s_nil, s_cons, s_cb, s_call, s_tup, s_lst, s_sub, s_bm, s_aug, s_asg, s_sl, s_nopart, s_part, s_ret, s_ifs, s_if, s_test, s_not, s_and, s_or, s_andV, s_orV, s_notV, s_oI, s_add, s_mul, s_cmp, s_cmps, s_eq, s_eqs, s_eqb, s_lc, s_for, s_ex, s_pn, s_pc, s_disp, s_r1, s_r2, s_e, s_z, wipeD, s_setdN, s_tcount, s_xget, s_get, s_fld, s_meth, s_make, s_raise, s_raiseI, s_dget2, List.getElem?_cons_zero, List.getElem?_cons_succ, List.set_cons_zero, List.set_cons_succ, Option.some.injEq, exists_eq_left', exists_eq_left, startD, List.map_cons, List.map_nil, List.length_cons, List.length_nil, List.replicate_succ, List.replicate_zero, List.append_nil, List.cons_append, List.nil_append, D.bl.injEq, D.int.injEq, D.str.injEq, D.tupz.injEq, D.ref.injEq, decide_eq_true_eq, decide_eq_false_iff_not, Bool.bne_false, Bool.bne_true, Nat.reduceAdd, Nat.reduceSub, Nat.reduceLeDiff, reduceCtorEq, true_and, and_true, false_implies, true_implies, imp_self, Bool.false_eq_true, forall_const]
      rw [List.length_map]
      refine ⟨?_, some (.lst (sL r)), ?_⟩
      · rw [take_snoc (cutL_get hn)]
        exact fr_snoc hf hb ha
      · rw [sum_take hn]
        rfl
  · subst er
    have e : (cutL xs (shp s)).take (rowsD s).length = cutL xs (shp s) := by
      rw [List.length_map, ← List.length_map (as := s) (f := List.length), ← cutL_len (xs := xs) (ns := shp s), List.take_length]
    rw [e] at hf
    simp only [s_seq, s_set, s_next, s_cont, s_break, s_expr, s_retN, s_var, s_c, s_op, s_nil, s_cons, s_cb, s_call, s_tup, s_lst, s_sub, s_bm, s_aug, s_asg, s_sl, s_nopart, s_part, s_ret, s_ifs, s_if, s_test, s_not, s_and, s_or, s_andV, s_orV, s_notV, s_oI, s_add, s_mul, s_cmp, s_cmps, s_eq, s_eqs, s_eqb, s_lc, s_for, s_ex, s_pn, s_pc, s_disp, s_r1, s_r2, s_e, s_z, wipeD, s_setdN, s_tcount, s_xget, s_get, s_fld, s_meth, s_make, s_raise, s_raiseI, s_dget2, List.getElem?_cons_zero, List.getElem?_cons_succ, List.set_cons_zero, List.set_cons_succ, Option.some.injEq, exists_eq_left', exists_eq_left, startD, List.map_cons, List.map_nil, List.length_cons, List.length_nil, List.replicate_succ, List.replicate_zero, List.append_nil, List.cons_append, List.nil_append, D.bl.injEq, D.int.injEq, D.str.injEq, D.tupz.injEq, D.ref.injEq, decide_eq_true_eq, decide_eq_false_iff_not, Bool.bne_false, Bool.bne_true, Nat.reduceAdd, Nat.reduceSub, Nat.reduceLeDiff, reduceCtorEq, true_and, and_true, false_implies, true_implies, imp_self, Bool.false_eq_true, forall_const]
    exact ret_ (q p S' hf)
end
end N42
set_option Elab.async false
set_option linter.all false
set_option maxRecDepth 100000
set_option maxHeartbeats 4000000
namespace N42
open PySem PySem.Spec PyProof.Rows L2 KR
section
variable {K : Kx} {S S' : Store} {Q : VQ} {E : EQ} {ds : List D} {a : Addr}
def nkey (k : List Str) : NestedKey := .tup (k.map .text)
theorem nkey_inj {k k' : List Str} (h : nkey k = nkey k') : k = k' := by
  unfold nkey at h
  exact (List.map_inj_right (f := NestedKey.text) (fun x y h => by cases h; rfl)).mp (NestedKey.tup.inj h)
theorem kNs_sL : ∀ {k : List Str}, kNs (sL k) = some (k.map .text)
  | [] => by unfold sL; simp [kNs]
  | x :: k => by
    have ih := kNs_sL (k := k)
    unfold sL at ih ⊢
    rw [List.map_cons, kNs, ih]
    simp [kN]
theorem kN_key {k : List Str} : kN (.tupz (sL k)) = some (nkey k) := by
  rw [kN, kNs_sL]; rfl
theorem depth_texts : ∀ {k : List Str}, NestedKey.depthAll (k.map .text) ≤ 1
  | [] => by simp [NestedKey.depthAll]
  | x :: k => by
    have := depth_texts (k := k)
    rw [List.map_cons]
    simp only [NestedKey.depthAll, NestedKey.depth]
    omega
theorem depth_key {k : List Str} : (nkey k).depth ≤ 8 := by
  have := depth_texts (k := k)
  unfold nkey
  simp only [NestedKey.depth]
  omega
def kvF (n : Nat) (hs : List (List Str)) : List (NestedKey × D) := (hs.zipIdx n).map fun q => (nkey q.1, .int (q.2 : Nat))
theorem kvF_get {k : List Str} : ∀ {hs : List (List Str)} {n : Nat}, getN (kvF n hs) (nkey k) = if k ∈ hs then some (.int ((n + hs.idxOf k : Nat) : Int)) else none
  | [], n => rfl
  | h :: hs, n => by
    unfold kvF getN
    rw [List.zipIdx_cons, List.map_cons, List.find?_cons]
    by_cases e : h = k
    · subst e
      simp
    · have e2 : nkey h ≠ nkey k := fun q => e (nkey_inj q)
      simp only [e2, decide_false]
      have ih := kvF_get (k := k) (hs := hs) (n := n + 1)
      unfold kvF getN at ih
      rw [ih, List.idxOf_cons]
      have e3 : (h == k) = false := by simpa using e
      have e4 : k ∈ h :: hs ↔ k ∈ hs := by simp [Ne.symm e]
      simp only [e3, e4, cond_false]
      split
      · congr 2
        omega
      · rfl
theorem kvF_put {k : List Str} {hs : List (List Str)} (h : k ∉ hs) : putN (kvF 0 hs) (nkey k) (.int (hs.length : Nat)) = kvF 0 (hs ++ [k]) := by
  unfold putN
  rw [kvF_get, if_neg h]
  unfold kvF
  rw [List.zipIdx_append, List.map_append]
  simp
theorem kvF_len {hs : List (List Str)} {n : Nat} : (kvF n hs).length = hs.length := by unfold kvF; simp
theorem p_opened (c : SaysB fa fn K.K) (h : A_opened K ds S Q E) : w_opened K (fun c p _ S' => E c p S') { nx := fun _ S' => Q .non S', rt := Q } (startD ["words", "keys", "holes", "found", "word", "key"] ds) S := by
  obtain ⟨ws, ks, h1, h2, hd, hl, hz, hw, q⟩ := h
  match ds, hd with
  | [d1, d2], _ =>
  replace h1 : asL S d1 = some ws := h1
  replace h2 : asL S d2 = some (ks.map fun k => .tupz (sL k)) := h2
  unfold w_opened
  simp only [s_seq, s_set, s_next, s_cont, s_break, s_expr, s_retN, s_var, s_c, s_op, s_nil, s_cons, s_cb, s_call, s_tup, s_lst, s_sub, s_bm, s_aug, s_asg, s_sl, s_nopart, s_part, s_ret, s_ifs, s_if, s_test, s_not, s_and, s_or, s_andV, s_orV, s_notV, s_oI, s_add, s_mul, s_cmp, s_cmps, s_eq, s_eqs, s_eqb, s_lc, s_for, s_ex, s_pn, s_pc, s_disp, s_r1, s_r2, s_e, s_z, wipeD, s_setdN, s_tcount, s_xget, s_get, s_fld, s_meth, s_make, s_raise, s_raiseI, s_dget2, List.getElem?_cons_zero, List.getElem?_cons_succ, List.set_cons_zero, List.set_cons_succ, Option.some.injEq, exists_eq_left', exists_eq_left, startD, List.map_cons, List.map_nil, List.length_cons, List.length_nil, List.replicate_succ, List.replicate_zero, List.append_nil, List.cons_append, List.nil_append, D.bl.injEq, D.int.injEq, D.str.injEq, D.tupz.injEq, D.ref.injEq, decide_eq_true_eq, decide_eq_false_iff_not, Bool.bne_false, Bool.bne_true, Nat.reduceAdd, Nat.reduceSub, Nat.reduceLeDiff, reduceCtorEq, true_and, and_true, false_implies, true_implies, imp_self, Bool.false_eq_true, forall_const]
  refine .inr (.inr fun a ha => ?_)
  simp only [s_seq, s_set, s_next, s_cont, s_break, s_expr, s_retN, s_var, s_c, s_op, s_nil, s_cons, s_cb, s_call, s_tup, s_lst, s_sub, s_bm, s_aug, s_asg, s_sl, s_nopart, s_part, s_ret, s_ifs, s_if, s_test, s_not, s_and, s_or, s_andV, s_orV, s_notV, s_oI, s_add, s_mul, s_cmp, s_cmps, s_eq, s_eqs, s_eqb, s_lc, s_for, s_ex, s_pn, s_pc, s_disp, s_r1, s_r2, s_e, s_z, wipeD, s_setdN, s_tcount, s_xget, s_get, s_fld, s_meth, s_make, s_raise, s_raiseI, s_dget2, List.getElem?_cons_zero, List.getElem?_cons_succ, List.set_cons_zero, List.set_cons_succ, Option.some.injEq, exists_eq_left', exists_eq_left, startD, List.map_cons, List.map_nil, List.length_cons, List.length_nil, List.replicate_succ, List.replicate_zero, List.append_nil, List.cons_append, List.nil_append, D.bl.injEq, D.int.injEq, D.str.injEq, D.tupz.injEq, D.ref.injEq, decide_eq_true_eq, decide_eq_false_iff_not, Bool.bne_false, Bool.bne_true, Nat.reduceAdd, Nat.reduceSub, Nat.reduceLeDiff, reduceCtorEq, true_and, and_true, false_implies, true_implies, imp_self, Bool.false_eq_true, forall_const]
  refine ⟨by decide, .inr fun p hp => ?_⟩
  have hpa : p ≠ a := fun e => by rw [e, sup_same] at hp; cases hp
  have hp0 : S p = none := by rw [← hp, sup_ne hpa]
  have v : ∀ {x : D} {xs : List D} {c1 c2 : Cell}, asL S x = some xs → asL (sup (sup S a c1) p c2) x = some xs := fun {x xs c1 c2} h => asL_new (asL_new h ha) (by rw [sup_ne hpa]; exact hp0)
  simp only [s_seq, s_set, s_next, s_cont, s_break, s_expr, s_retN, s_var, s_c, s_op, s_nil, s_cons, s_cb, s_call, s_tup, s_lst, s_sub, s_bm, s_aug, s_asg, s_sl, s_nopart, s_part, s_ret, s_ifs, s_if, s_test, s_not, s_and, s_or, s_andV, s_orV, s_notV, s_oI, s_add, s_mul, s_cmp, s_cmps, s_eq, s_eqs, s_eqb, s_lc, s_for, s_ex, s_pn, s_pc, s_disp, s_r1, s_r2, s_e, s_z, wipeD, s_setdN, s_tcount, s_xget, s_get, s_fld, s_meth, s_make, s_raise, s_raiseI, s_dget2, List.getElem?_cons_zero, List.getElem?_cons_succ, List.set_cons_zero, List.set_cons_succ, Option.some.injEq, exists_eq_left', exists_eq_left, startD, List.map_cons, List.map_nil, List.length_cons, List.length_nil, List.replicate_succ, List.replicate_zero, List.append_nil, List.cons_append, List.nil_append, D.bl.injEq, D.int.injEq, D.str.injEq, D.tupz.injEq, D.ref.injEq, decide_eq_true_eq, decide_eq_false_iff_not, Bool.bne_false, Bool.bne_true, Nat.reduceAdd, Nat.reduceSub, Nat.reduceLeDiff, reduceCtorEq, true_and, and_true, false_implies, true_implies, imp_self, Bool.false_eq_true, forall_const]
  refine ⟨d1, d2, ws, _, rfl, v h1, v h2, fun _ _ => ?_⟩
  refine ⟨fun i ρ S' => ∃ hs items y z, S' = sup (sup S a (.dN (kvF 0 hs))) p (.lst items) ∧ ρ = [some d1, some d2, some (.ref a), some (.ref p), y, z] ∧ hs.length ≤ i ∧ items.length = i ∧ items ++ opn hs (ws.drop i) (ks.drop i) = opn [] ws ks,
    ⟨[], [], none, none, rfl, rfl, Nat.le_refl _, rfl, rfl⟩, fun i ρ S' _ ⟨hs, items, y, z, e, _⟩ => by rw [e]; exact ⟨v h1, v h2⟩, fun i d ρ S' hd ⟨hs, items, y, z, e, er, hh, hil, ho⟩ => ?_, fun ρ S' ⟨hs, items, y, z, e, er, hh, hil, ho⟩ => ?_⟩
  · subst e er
    obtain ⟨w, kd, hwi, hki, rfl⟩ := zipD_get hd
    rw [List.getElem?_map] at hki
    obtain ⟨k, hk, rfl⟩ := Option.map_eq_some_iff.mp hki
    have hi := (List.getElem?_eq_some_iff.mp hk).1
    have ew : ws.drop i = w :: ws.drop (i + 1) := by
      have h3 := (List.getElem?_eq_some_iff.mp hwi).1
      rw [List.drop_eq_getElem_cons h3]
      have := (List.getElem?_eq_some_iff.mp hwi).2
      rw [this]
    have ek : ks.drop i = k :: ks.drop (i + 1) := by
      rw [List.drop_eq_getElem_cons hi]
      have := (List.getElem?_eq_some_iff.mp hk).2
      rw [this]
    rw [ew, ek] at ho
    refine ⟨_, rfl, ?_⟩
    simp only [s_seq, s_set, s_next, s_cont, s_break, s_expr, s_retN, s_var, s_c, s_op, s_nil, s_cons, s_cb, s_call, s_tup, s_lst, s_sub, s_bm, s_aug, s_asg, s_sl, s_nopart, s_part, s_ret, s_ifs, s_if, s_test, s_not, s_and, s_or, s_andV, s_orV, s_notV, s_oI, s_add, s_mul, s_cmp, s_cmps, s_eq, s_eqs, s_eqb, s_lc, s_for, s_ex, s_pn, s_pc, s_disp, s_r1, s_r2, s_e, s_z, wipeD, s_setdN, s_tcount, s_xget, s_get, s_fld, s_meth, s_make, s_raise, s_raiseI, s_dget2, List.getElem?_cons_zero, List.getElem?_cons_succ, List.set_cons_zero, List.set_cons_succ, Option.some.injEq, exists_eq_left', exists_eq_left, startD, List.map_cons, List.map_nil, List.length_cons, List.length_nil, List.replicate_succ, List.replicate_zero, List.append_nil, List.cons_append, List.nil_append, D.bl.injEq, D.int.injEq, D.str.injEq, D.tupz.injEq, D.ref.injEq, decide_eq_true_eq, decide_eq_false_iff_not, Bool.bne_false, Bool.bne_true, Nat.reduceAdd, Nat.reduceSub, Nat.reduceLeDiff, reduceCtorEq, true_and, and_true, false_implies, true_implies, imp_self, Bool.false_eq_true, forall_const]
    have sa : ∀ {c1 c2 : Cell}, sup (sup S a c1) p c2 a = some c1 := fun {c1 c2} => by rw [sup_ne (Ne.symm hpa), sup_same]
    have sz : items.length < sizeLine := by rw [sizeLine_eq]; omega
    have sw : ∀ {c1 c2 c3 : Cell}, sup (sup (sup S a c1) p c2) a c3 = sup (sup S a c3) p c2 := fun {c1 c2 c3} => by rw [sup_comm hpa, sup_sup]
    rcases hw w (List.mem_of_getElem? hwi) with e | ⟨x, e⟩
    · subst e
      refine ⟨true, rfl, ⟨fun _ => ⟨rcv_l asL_sup_same, ?_⟩, fun h => (nomatch h)⟩⟩
      refine ⟨⟨_, sa⟩, ?_⟩
      refine .inr ⟨a, _, rfl, sa, ?_⟩
      refine ⟨_, nkey k, _, sa, kN_key, rfl, depth_key, by rw [kvF_len, sizeLine_eq]; omega, fun d hg => ?_, fun hg => ?_⟩
      · rw [kvF_get] at hg
        by_cases hm : k ∈ hs
        · rw [if_pos hm] at hg
          cases hg
          refine ⟨p, items, _, rfl, rfl, sup_same, sz, ?_⟩
          refine ⟨hs, items ++ [.int ((hs.idxOf k : Nat) : Int)], some .non, some (.tupz (sL k)), ?_, rfl, by omega, by rw [List.length_append, hil]; rfl, ?_⟩
          · rw [sup_sup, Nat.zero_add]
          · rw [← ho]
            simp [opn, hm]
        · rw [if_neg hm] at hg
          cases hg
      · rw [kvF_get] at hg
        by_cases hm : k ∈ hs
        · rw [if_pos hm] at hg
          cases hg
        · rw [kvF_len, kvF_put hm, sw]
          refine ⟨p, items, _, rfl, rfl, sup_same, sz, ?_⟩
          refine ⟨hs ++ [k], items ++ [.int ((hs.length : Nat) : Int)], some .non, some (.tupz (sL k)), ?_, rfl, by rw [List.length_append]; show _ + 1 ≤ _; omega, by rw [List.length_append, hil]; rfl, ?_⟩
          · rw [sup_sup]
          · rw [← ho]
            simp [opn, hm]
    · subst e
      refine ⟨false, rfl, ⟨fun h => (nomatch h), fun _ => ⟨rcv_l asL_sup_same, ?_⟩⟩⟩
      refine ⟨p, items, _, rfl, rfl, sup_same, sz, ?_⟩
      refine ⟨hs, items ++ [.str x], some (.str x), some (.tupz (sL k)), ?_, rfl, by omega, by rw [List.length_append, hil]; rfl, ?_⟩
      · rw [sup_sup]
      · rw [← ho]
        simp [opn]
  · subst e er
    rw [zipD_length, List.length_map, hl, Nat.min_self] at hil ho
    rw [List.drop_of_length_le (by omega : ks.length ≤ ks.length), List.drop_of_length_le (by omega : ws.length ≤ ks.length)] at ho
    have e : items = opn [] ws ks := by
      rw [← ho]
      simp [opn]
    subst e
    simp only [s_seq, s_set, s_next, s_cont, s_break, s_expr, s_retN, s_var, s_c, s_op, s_nil, s_cons, s_cb, s_call, s_tup, s_lst, s_sub, s_bm, s_aug, s_asg, s_sl, s_nopart, s_part, s_ret, s_ifs, s_if, s_test, s_not, s_and, s_or, s_andV, s_orV, s_notV, s_oI, s_add, s_mul, s_cmp, s_cmps, s_eq, s_eqs, s_eqb, s_lc, s_for, s_ex, s_pn, s_pc, s_disp, s_r1, s_r2, s_e, s_z, wipeD, s_setdN, s_tcount, s_xget, s_get, s_fld, s_meth, s_make, s_raise, s_raiseI, s_dget2, List.getElem?_cons_zero, List.getElem?_cons_succ, List.set_cons_zero, List.set_cons_succ, Option.some.injEq, exists_eq_left', exists_eq_left, startD, List.map_cons, List.map_nil, List.length_cons, List.length_nil, List.replicate_succ, List.replicate_zero, List.append_nil, List.cons_append, List.nil_append, D.bl.injEq, D.int.injEq, D.str.injEq, D.tupz.injEq, D.ref.injEq, decide_eq_true_eq, decide_eq_false_iff_not, Bool.bne_false, Bool.bne_true, Nat.reduceAdd, Nat.reduceSub, Nat.reduceLeDiff, reduceCtorEq, true_and, and_true, false_implies, true_implies, imp_self, Bool.false_eq_true, forall_const]
    refine ⟨sup S p (.lst (opn [] ws ks)), fun b => ?_, .inr (.inl ⟨p, rfl, .inl ⟨_, sup_same, by rw [sdel_sup hp0]; exact q⟩⟩)⟩
    by_cases e : b = p
    · subst e
      exact .inl (by rw [sup_same, sup_same])
    · rw [sup_ne e, sup_ne e]
      by_cases e2 : b = a
      · subst e2
        exact .inr ha
      · exact .inl (sup_ne e2).symm
theorem opn_len : ∀ {hs : List (List Str)} {ws : List D} {ks : List (List Str)}, (opn hs ws ks).length ≤ ks.length
  | hs, [], ks => by simp [opn]
  | hs, w :: ws, [] => by simp [opn]
  | hs, w :: ws, k :: ks => by
    have h1 := opn_len (hs := hs) (ws := ws) (ks := ks)
    have h2 := opn_len (hs := hs ++ [k]) (ws := ws) (ks := ks)
    unfold opn
    split
    · split
      · rw [List.length_cons, List.length_cons]; omega
      · rw [List.length_cons, List.length_cons]; omega
    · rw [List.length_cons, List.length_cons]; omega
/-! ### form_of -/
theorem bad_all {sh : List (List Nat)} (h : bad sh = none) : ∀ s ∈ sh, s = sh.headD [] := by
  have hb : ∀ r < (sh.map List.length).foldr max 0, badr sh r = false := by
    unfold bad at h
    rw [List.find?_range_eq_none] at h
    exact fun r hr => by
      have := h r hr
      rw [Bool.not_eq_true'] at this
      exact this
  intro s hs
  refine List.ext_getElem? fun r => ?_
  by_cases hr : r < (sh.map List.length).foldr max 0
  · have := hb r hr
    unfold badr at this
    rw [Bool.not_eq_false', List.all_eq_true] at this
    exact of_decide_eq_true (this s hs)
  · have up : ∀ t ∈ sh, t.length ≤ (sh.map List.length).foldr max 0 := fun t ht => by
      clear hr hb h hs
      induction sh with
      | nil => cases ht
      | cons x l ih =>
        rw [List.map_cons, List.foldr_cons]
        rcases List.mem_cons.mp ht with e | e
        · subst e; omega
        · have := ih e
          omega
    have h1 := up s hs
    have h2 : (sh.headD []).length ≤ (sh.map List.length).foldr max 0 := by
      cases sh with
      | nil => cases hs
      | cons t l => exact up t List.mem_cons_self
    rw [List.getElem?_eq_none (by omega), List.getElem?_eq_none (by omega)]
theorem flat_shp {α β : Type} {s : List (List α)} {t : List (List β)} (h : shp s = shp t) : s.flatten.length = t.flatten.length := by
  rw [List.length_flatten, List.length_flatten]
  exact congrArg List.sum h
theorem row_items {S : Store} {s : List (List Str)} : ((rowsD s).flatMap fun r => (asL S r).getD []) = sL s.flatten := by
  induction s with
  | nil => rfl
  | cons r s ih =>
    show (asL S (.lst (sL r))).getD [] ++ (rowsD s).flatMap _ = _
    rw [ih]
    exact List.map_append.symm
def colOf (ss : List (List (List Str))) (k : Nat) : List Str := ss.map fun s => s.flatten.getD k (Str.ofString "")
theorem flats_sL {c : List Str} : (sL c).all flatD = true := by
  rw [List.all_eq_true]
  intro x hx
  obtain ⟨w, _, rfl⟩ := List.mem_map.mp hx
  rfl
theorem cnt_same {c : List Str} {w : Str} (h : c.headD (Str.ofString "") = w) : (((sL c).countP fun z => eqF z (.str w)) = c.length) ↔ same c = true := by
  subst h
  rw [List.countP_map]
  have e : ((fun z => eqF z (.str (c.headD (Str.ofString "")))) ∘ D.str) = fun x => decide (x = c.headD (Str.ofString "")) := by
    funext x
    rfl
  rw [e, List.countP_eq_length]
  unfold same
  rw [List.all_eq_true]
theorem fr_forget {p a b : Addr} {c d : Cell} {rs : List (List D)} {S2 : Store} (ha : S a = none) (hb : S b = none) (hab : a ≠ b) (h : Fr (sup (sup S a c) b d) S2 p rs) : Fr S (sdel (sdel S2 a) b) p rs := by
  obtain ⟨as, h1, h2, h3, h4, h5, h6, h7⟩ := h
  have hpb : p ≠ b := fun e => by rw [e, sup_same] at h3; cases h3
  have hpa : p ≠ a := fun e => by rw [e, sup_ne hab, sup_same] at h3; cases h3
  have hb' : b ∉ as := fun hm => by
    have := h4 b hm
    rw [sup_same] at this; cases this
  have ha' : a ∉ as := fun hm => by
    have := h4 a hm
    rw [sup_ne hab, sup_same] at this; cases this
  refine ⟨as, h1, h2, ?_, fun x hx => ?_, ?_, ?_, fun x hx hm => ?_⟩
  · rw [sup_ne hpb, sup_ne hpa] at h3; exact h3
  · have := h4 x hx
    rw [sup_ne (fun e => hb' (by rw [← e]; exact hx)), sup_ne (fun e => ha' (by rw [← e]; exact hx))] at this
    exact this
  · rw [sdel_ne hpb, sdel_ne hpa]; exact h5
  · have go : ∀ {as'' : List Addr} {rs : List (List D)}, (∀ x ∈ as'', x ∈ as) → Paired (fun b r => S2 b = some (.lst r)) as'' rs → Paired (fun x r' => sdel (sdel S2 a) b x = some (.lst r')) as'' rs := by
      intro as'' rs hsub hp
      induction hp with
      | nil => exact .nil
      | cons h t ih =>
        rename_i x r _ _
        have hx := hsub _ List.mem_cons_self
        refine .cons ?_ (ih fun x hx => hsub x (List.mem_cons_of_mem _ hx))
        rw [sdel_ne (fun e => hb' (by rw [← e]; exact hx)), sdel_ne (fun e => ha' (by rw [← e]; exact hx))]
        exact h
    exact go (fun x hx => hx) h6
  · by_cases e1 : x = b
    · subst e1; rw [sdel_same, hb]
    · rw [sdel_ne e1]
      by_cases e2 : x = a
      · subst e2; rw [sdel_same, ha]
      · rw [sdel_ne e2, h7 x hx hm, sup_ne e1, sup_ne e2]
theorem sub_del2 {S2 : Store} {a b : Addr} : Sub (sdel (sdel S2 a) b) S2 := fun x => by
  by_cases e1 : x = b
  · subst e1; exact .inr sdel_same
  · by_cases e2 : x = a
    · subst e2; exact .inr (by rw [sdel_ne e1, sdel_same])
    · exact .inl (by rw [sdel_ne e1, sdel_ne e2])
theorem p_form_of (c : SaysB fa fn K.K) (h : A_form_of K ds S Q E) : w_form_of K (fun c p _ S' => E c p S') { nx := fun _ S' => Q .non S', rt := Q } (startD ["stretches", "rows", "keys", "words", "k", "word", "key", "stretch", "row"] ds) S := by
  obtain ⟨ss, rfl, hl, hs, q⟩ := h
  unfold w_form_of
  simp only [s_seq, s_set, s_next, s_cont, s_break, s_expr, s_retN, s_var, s_c, s_op, s_nil, s_cons, s_cb, s_call, s_tup, s_lst, s_sub, s_bm, s_aug, s_asg, s_sl, s_nopart, s_part, s_ret, s_ifs, s_if, s_test, s_not, s_and, s_or, s_andV, s_orV, s_notV, s_oI, s_add, s_mul, s_cmp, s_cmps, s_eq, s_eqs, s_eqb, s_lc, s_for, s_ex, s_pn, s_pc, s_disp, s_r1, s_r2, s_e, s_z, wipeD, s_setdN, s_tcount, s_xget, s_get, s_fld, s_meth, s_make, s_raise, s_raiseI, s_dget2, List.getElem?_cons_zero, List.getElem?_cons_succ, List.set_cons_zero, List.set_cons_succ, Option.some.injEq, exists_eq_left', exists_eq_left, startD, List.map_cons, List.map_nil, List.length_cons, List.length_nil, List.replicate_succ, List.replicate_zero, List.append_nil, List.cons_append, List.nil_append, D.bl.injEq, D.int.injEq, D.str.injEq, D.tupz.injEq, D.ref.injEq, decide_eq_true_eq, decide_eq_false_iff_not, Bool.bne_false, Bool.bne_true, Nat.reduceAdd, Nat.reduceSub, Nat.reduceLeDiff, reduceCtorEq, true_and, and_true, false_implies, true_implies, imp_self, Bool.false_eq_true, forall_const]
  refine .inl (len_l rfl ?_)
  simp only [s_seq, s_set, s_next, s_cont, s_break, s_expr, s_retN, s_var, s_c, s_op, s_nil, s_cons, s_cb, s_call, s_tup, s_lst, s_sub, s_bm, s_aug, s_asg, s_sl, s_nopart, s_part, s_ret, s_ifs, s_if, s_test, s_not, s_and, s_or, s_andV, s_orV, s_notV, s_oI, s_add, s_mul, s_cmp, s_cmps, s_eq, s_eqs, s_eqb, s_lc, s_for, s_ex, s_pn, s_pc, s_disp, s_r1, s_r2, s_e, s_z, wipeD, s_setdN, s_tcount, s_xget, s_get, s_fld, s_meth, s_make, s_raise, s_raiseI, s_dget2, List.getElem?_cons_zero, List.getElem?_cons_succ, List.set_cons_zero, List.set_cons_succ, Option.some.injEq, exists_eq_left', exists_eq_left, startD, List.map_cons, List.map_nil, List.length_cons, List.length_nil, List.replicate_succ, List.replicate_zero, List.append_nil, List.cons_append, List.nil_append, D.bl.injEq, D.int.injEq, D.str.injEq, D.tupz.injEq, D.ref.injEq, decide_eq_true_eq, decide_eq_false_iff_not, Bool.bne_false, Bool.bne_true, Nat.reduceAdd, Nat.reduceSub, Nat.reduceLeDiff, reduceCtorEq, true_and, and_true, false_implies, true_implies, imp_self, Bool.false_eq_true, forall_const]
  rw [List.length_map]
  refine ⟨fun h0 => ?_, fun h0 => ?_⟩
  · have : ss = [] := List.length_eq_zero_iff.mp (by omega)
    subst this
    exact q
  have hne : ss ≠ [] := fun e => by rw [e] at h0; exact h0 rfl
  refine ⟨ss, rfl, hne, hl, hs, ?_⟩
  obtain ⟨s0, sr, rfl⟩ := List.exists_cons_of_ne_nil hne
  cases hb : bad ((s0 :: sr).map shp) with
  | some r =>
    unfold formQ at q
    dsimp only at q
    rw [hb] at q
    exact q
  | none =>
  unfold formQ at q
  dsimp only at q
  rw [hb] at q
  generalize hss : s0 :: sr = ss at *
  have hsh : ∀ s ∈ ss, shp s = shp s0 := fun s hm => by
    have := bad_all hb (shp s) (List.mem_map_of_mem hm)
    rw [this, ← hss]
    rfl
  have hs0 : Small s0 := hs s0 (by rw [← hss]; exact List.mem_cons_self)
  have hf0 := hs0.flat
  have hfl : ∀ s ∈ ss, s.flatten.length = s0.flatten.length := fun s hm => flat_shp (hsh s hm)
  refine ⟨false, wi_l ?_⟩
  simp only [s_seq, s_set, s_next, s_cont, s_break, s_expr, s_retN, s_var, s_c, s_op, s_nil, s_cons, s_cb, s_call, s_tup, s_lst, s_sub, s_bm, s_aug, s_asg, s_sl, s_nopart, s_part, s_ret, s_ifs, s_if, s_test, s_not, s_and, s_or, s_andV, s_orV, s_notV, s_oI, s_add, s_mul, s_cmp, s_cmps, s_eq, s_eqs, s_eqb, s_lc, s_for, s_ex, s_pn, s_pc, s_disp, s_r1, s_r2, s_e, s_z, wipeD, s_setdN, s_tcount, s_xget, s_get, s_fld, s_meth, s_make, s_raise, s_raiseI, s_dget2, List.getElem?_cons_zero, List.getElem?_cons_succ, List.set_cons_zero, List.set_cons_succ, Option.some.injEq, exists_eq_left', exists_eq_left, startD, List.map_cons, List.map_nil, List.length_cons, List.length_nil, List.replicate_succ, List.replicate_zero, List.append_nil, List.cons_append, List.nil_append, D.bl.injEq, D.int.injEq, D.str.injEq, D.tupz.injEq, D.ref.injEq, decide_eq_true_eq, decide_eq_false_iff_not, Bool.bne_false, Bool.bne_true, Nat.reduceAdd, Nat.reduceSub, Nat.reduceLeDiff, reduceCtorEq, true_and, and_true, false_implies, true_implies, imp_self, Bool.false_eq_true, forall_const]
  refine ⟨_, rfl, fun hz => ?_⟩
  refine lc_map (fun x => .lst (((asL S x).getD []).flatMap fun r => (asL S r).getD [])) (fun b us hb => rfl) (fun x hx b us hb' => ⟨_, rfl, fun Q' hQ => ?_⟩) hz ?_
  · simp only [s_seq, s_set, s_next, s_cont, s_break, s_expr, s_retN, s_var, s_c, s_op, s_nil, s_cons, s_cb, s_call, s_tup, s_lst, s_sub, s_bm, s_aug, s_asg, s_sl, s_nopart, s_part, s_ret, s_ifs, s_if, s_test, s_not, s_and, s_or, s_andV, s_orV, s_notV, s_oI, s_add, s_mul, s_cmp, s_cmps, s_eq, s_eqs, s_eqb, s_lc, s_for, s_ex, s_pn, s_pc, s_disp, s_r1, s_r2, s_e, s_z, wipeD, s_setdN, s_tcount, s_xget, s_get, s_fld, s_meth, s_make, s_raise, s_raiseI, s_dget2, List.getElem?_cons_zero, List.getElem?_cons_succ, List.set_cons_zero, List.set_cons_succ, Option.some.injEq, exists_eq_left', exists_eq_left, startD, List.map_cons, List.map_nil, List.length_cons, List.length_nil, List.replicate_succ, List.replicate_zero, List.append_nil, List.cons_append, List.nil_append, D.bl.injEq, D.int.injEq, D.str.injEq, D.tupz.injEq, D.ref.injEq, decide_eq_true_eq, decide_eq_false_iff_not, Bool.bne_false, Bool.bne_true, Nat.reduceAdd, Nat.reduceSub, Nat.reduceLeDiff, reduceCtorEq, true_and, and_true, false_implies, true_implies, imp_self, Bool.false_eq_true, forall_const]
    obtain ⟨s, hm, rfl⟩ := List.mem_map.mp hx
    refine ⟨s, rfl, hs s hm, ?_⟩
    have e : (((asL S (stD s)).getD []).flatMap fun r => (asL S r).getD []) = sL s.flatten := row_items
    rw [e] at hQ
    exact hQ
  have er : ((ss.map stD).map fun x => D.lst (((asL S x).getD []).flatMap fun r => (asL S r).getD [])) = ss.map fun s => D.lst (sL s.flatten) := by
    rw [List.map_map]
    exact List.map_congr_left fun s _ => congrArg D.lst row_items
  rw [er]
  show _ ≤ _ ∧ _
  refine ⟨by decide, .inr fun a ha => ?_⟩
  simp only [s_seq, s_set, s_next, s_cont, s_break, s_expr, s_retN, s_var, s_c, s_op, s_nil, s_cons, s_cb, s_call, s_tup, s_lst, s_sub, s_bm, s_aug, s_asg, s_sl, s_nopart, s_part, s_ret, s_ifs, s_if, s_test, s_not, s_and, s_or, s_andV, s_orV, s_notV, s_oI, s_add, s_mul, s_cmp, s_cmps, s_eq, s_eqs, s_eqb, s_lc, s_for, s_ex, s_pn, s_pc, s_disp, s_r1, s_r2, s_e, s_z, wipeD, s_setdN, s_tcount, s_xget, s_get, s_fld, s_meth, s_make, s_raise, s_raiseI, s_dget2, List.getElem?_cons_zero, List.getElem?_cons_succ, List.set_cons_zero, List.set_cons_succ, Option.some.injEq, exists_eq_left', exists_eq_left, startD, List.map_cons, List.map_nil, List.length_cons, List.length_nil, List.replicate_succ, List.replicate_zero, List.append_nil, List.cons_append, List.nil_append, D.bl.injEq, D.int.injEq, D.str.injEq, D.tupz.injEq, D.ref.injEq, decide_eq_true_eq, decide_eq_false_iff_not, Bool.bne_false, Bool.bne_true, Nat.reduceAdd, Nat.reduceSub, Nat.reduceLeDiff, reduceCtorEq, true_and, and_true, false_implies, true_implies, imp_self, Bool.false_eq_true, forall_const]
  refine ⟨by decide, .inr fun b hbn => ?_⟩
  have hba : b ≠ a := fun e => by rw [e, sup_same] at hbn; cases hbn
  have hb0 : S b = none := by rw [← hbn, sup_ne hba]
  simp only [s_seq, s_set, s_next, s_cont, s_break, s_expr, s_retN, s_var, s_c, s_op, s_nil, s_cons, s_cb, s_call, s_tup, s_lst, s_sub, s_bm, s_aug, s_asg, s_sl, s_nopart, s_part, s_ret, s_ifs, s_if, s_test, s_not, s_and, s_or, s_andV, s_orV, s_notV, s_oI, s_add, s_mul, s_cmp, s_cmps, s_eq, s_eqs, s_eqb, s_lc, s_for, s_ex, s_pn, s_pc, s_disp, s_r1, s_r2, s_e, s_z, wipeD, s_setdN, s_tcount, s_xget, s_get, s_fld, s_meth, s_make, s_raise, s_raiseI, s_dget2, List.getElem?_cons_zero, List.getElem?_cons_succ, List.set_cons_zero, List.set_cons_succ, Option.some.injEq, exists_eq_left', exists_eq_left, startD, List.map_cons, List.map_nil, List.length_cons, List.length_nil, List.replicate_succ, List.replicate_zero, List.append_nil, List.cons_append, List.nil_append, D.bl.injEq, D.int.injEq, D.str.injEq, D.tupz.injEq, D.ref.injEq, decide_eq_true_eq, decide_eq_false_iff_not, Bool.bne_false, Bool.bne_true, Nat.reduceAdd, Nat.reduceSub, Nat.reduceLeDiff, reduceCtorEq, true_and, and_true, false_implies, true_implies, imp_self, Bool.false_eq_true, forall_const]
  have e0 : ss.map (fun s => D.lst (sL s.flatten)) = .lst (sL s0.flatten) :: sr.map (fun s => D.lst (sL s.flatten)) := by rw [← hss]; rfl
  refine ix_l (xs := ss.map fun s => D.lst (sL s.flatten)) rfl (by rw [e0]; exact at0) ?_
  refine ⟨_, _, rfl, rfl, fun _ => ?_⟩
  generalize hn : s0.flatten.length = n at *
  have hcl : (cols ss n).length = n := by unfold cols; rw [List.length_map, List.length_range]
  have hcg : ∀ i, i < n → (cols ss n)[i]? = some (colOf ss i) := fun i hi => by
    unfold cols colOf
    rw [List.getElem?_map, List.getElem?_range hi]
    rfl
  have sa : ∀ {c1 c2 : Cell}, sup (sup S a c1) b c2 a = some c1 := fun {c1 c2} => by rw [sup_ne (Ne.symm hba), sup_same]
  have sw : ∀ {c1 c2 c3 : Cell}, sup (sup (sup S a c1) b c2) a c3 = sup (sup S a c3) b c2 := fun {c1 c2 c3} => by rw [sup_comm hba, sup_sup]
  have va : ∀ {xs : List D} {c2 : Cell}, asL (sup (sup S a (.lst xs)) b c2) (.ref a) = some xs := fun {xs c2} => by
    show (match sup (sup S a (.lst xs)) b c2 a with | some (.lst xs) => some xs | _ => none) = _
    rw [sa]
  refine ⟨fun i ρ S' => S' = sup (sup S a (.lst (((cols ss n).take i).map fun c => .tupz (sL c)))) b (.lst (((cols ss n).take i).map fun c => if same c then .str (c.headD (Str.ofString "")) else .non)) ∧ ∃ x y z, ρ = [some (.lst (ss.map stD)), some (.lst (ss.map fun s => D.lst (sL s.flatten))), some (.ref a), some (.ref b), x, y, z, none, none],
    ⟨rfl, none, none, none, rfl⟩, fun i ρ S' _ _ => rfl, fun i d ρ S' hd ⟨e, x, y, z, er⟩ => ?_, fun ρ S' ⟨e, x, y, z, er⟩ => ?_⟩
  · subst e er
    obtain ⟨wd, hwd, rfl⟩ := enumD_get hd
    rw [List.getElem?_map] at hwd
    obtain ⟨w, hw, rfl⟩ := Option.map_eq_some_iff.mp hwd
    have hi : i < n := by rw [← hn]; exact (List.getElem?_eq_some_iff.mp hw).1
    have hhd : (colOf ss i).headD (Str.ofString "") = w := by
      unfold colOf
      rw [← hss]
      show s0.flatten.getD i (Str.ofString "") = w
      rw [List.getD, hw]
      rfl
    refine ⟨_, rfl, ?_⟩
    simp only [s_seq, s_set, s_next, s_cont, s_break, s_expr, s_retN, s_var, s_c, s_op, s_nil, s_cons, s_cb, s_call, s_tup, s_lst, s_sub, s_bm, s_aug, s_asg, s_sl, s_nopart, s_part, s_ret, s_ifs, s_if, s_test, s_not, s_and, s_or, s_andV, s_orV, s_notV, s_oI, s_add, s_mul, s_cmp, s_cmps, s_eq, s_eqs, s_eqb, s_lc, s_for, s_ex, s_pn, s_pc, s_disp, s_r1, s_r2, s_e, s_z, wipeD, s_setdN, s_tcount, s_xget, s_get, s_fld, s_meth, s_make, s_raise, s_raiseI, s_dget2, List.getElem?_cons_zero, List.getElem?_cons_succ, List.set_cons_zero, List.set_cons_succ, Option.some.injEq, exists_eq_left', exists_eq_left, startD, List.map_cons, List.map_nil, List.length_cons, List.length_nil, List.replicate_succ, List.replicate_zero, List.append_nil, List.cons_append, List.nil_append, D.bl.injEq, D.int.injEq, D.str.injEq, D.tupz.injEq, D.ref.injEq, decide_eq_true_eq, decide_eq_false_iff_not, Bool.bne_false, Bool.bne_true, Nat.reduceAdd, Nat.reduceSub, Nat.reduceLeDiff, reduceCtorEq, true_and, and_true, false_implies, true_implies, imp_self, Bool.false_eq_true, forall_const]
    refine ⟨false, wi_l ?_⟩
    simp only [s_seq, s_set, s_next, s_cont, s_break, s_expr, s_retN, s_var, s_c, s_op, s_nil, s_cons, s_cb, s_call, s_tup, s_lst, s_sub, s_bm, s_aug, s_asg, s_sl, s_nopart, s_part, s_ret, s_ifs, s_if, s_test, s_not, s_and, s_or, s_andV, s_orV, s_notV, s_oI, s_add, s_mul, s_cmp, s_cmps, s_eq, s_eqs, s_eqb, s_lc, s_for, s_ex, s_pn, s_pc, s_disp, s_r1, s_r2, s_e, s_z, wipeD, s_setdN, s_tcount, s_xget, s_get, s_fld, s_meth, s_make, s_raise, s_raiseI, s_dget2, List.getElem?_cons_zero, List.getElem?_cons_succ, List.set_cons_zero, List.set_cons_succ, Option.some.injEq, exists_eq_left', exists_eq_left, startD, List.map_cons, List.map_nil, List.length_cons, List.length_nil, List.replicate_succ, List.replicate_zero, List.append_nil, List.cons_append, List.nil_append, D.bl.injEq, D.int.injEq, D.str.injEq, D.tupz.injEq, D.ref.injEq, decide_eq_true_eq, decide_eq_false_iff_not, Bool.bne_false, Bool.bne_true, Nat.reduceAdd, Nat.reduceSub, Nat.reduceLeDiff, reduceCtorEq, true_and, and_true, false_implies, true_implies, imp_self, Bool.false_eq_true, forall_const]
    refine ⟨_, rfl, fun hz2 => ?_⟩
    refine lc_map (fun x => (((asL S x).getD [])[i]?).getD .non) (fun b us hb => rfl) (fun x hx b us hb' => ⟨_, rfl, fun Q' hQ => ?_⟩) hz2 ?_
    · simp only [s_seq, s_set, s_next, s_cont, s_break, s_expr, s_retN, s_var, s_c, s_op, s_nil, s_cons, s_cb, s_call, s_tup, s_lst, s_sub, s_bm, s_aug, s_asg, s_sl, s_nopart, s_part, s_ret, s_ifs, s_if, s_test, s_not, s_and, s_or, s_andV, s_orV, s_notV, s_oI, s_add, s_mul, s_cmp, s_cmps, s_eq, s_eqs, s_eqb, s_lc, s_for, s_ex, s_pn, s_pc, s_disp, s_r1, s_r2, s_e, s_z, wipeD, s_setdN, s_tcount, s_xget, s_get, s_fld, s_meth, s_make, s_raise, s_raiseI, s_dget2, List.getElem?_cons_zero, List.getElem?_cons_succ, List.set_cons_zero, List.set_cons_succ, Option.some.injEq, exists_eq_left', exists_eq_left, startD, List.map_cons, List.map_nil, List.length_cons, List.length_nil, List.replicate_succ, List.replicate_zero, List.append_nil, List.cons_append, List.nil_append, D.bl.injEq, D.int.injEq, D.str.injEq, D.tupz.injEq, D.ref.injEq, decide_eq_true_eq, decide_eq_false_iff_not, Bool.bne_false, Bool.bne_true, Nat.reduceAdd, Nat.reduceSub, Nat.reduceLeDiff, reduceCtorEq, true_and, and_true, false_implies, true_implies, imp_self, Bool.false_eq_true, forall_const]
      obtain ⟨s, hm, rfl⟩ := List.mem_map.mp hx
      have hi' : i < (sL s.flatten).length := by rw [List.length_map, hfl s hm]; exact hi
      refine ix_l rfl (atI_nat (List.getElem?_eq_getElem hi')) ?_
      have e : (((asL S (.lst (sL s.flatten))).getD [])[i]?).getD .non = (sL s.flatten)[i] := by
        show ((sL s.flatten)[i]?).getD .non = _
        rw [List.getElem?_eq_getElem hi']; rfl
      rw [e] at hQ
      exact hQ
    have ec : ((ss.map fun s => D.lst (sL s.flatten)).map fun x => (((asL S x).getD [])[i]?).getD .non) = sL (colOf ss i) := by
      unfold colOf sL
      rw [List.map_map, List.map_map]
      refine List.map_congr_left fun s hm => ?_
      have hi' : i < s.flatten.length := by rw [hfl s hm]; exact hi
      show ((sL s.flatten)[i]?).getD .non = .str (s.flatten.getD i (Str.ofString ""))
      rw [List.getElem?_map, List.getD, List.getElem?_eq_getElem hi']
      rfl
    rw [ec]
    refine .inr ⟨_, _, rfl, rfl, ?_⟩
    have hlc : (colOf ss i).length = ss.length := by unfold colOf; rw [List.length_map]
    have szc : ((cols ss n).take i).length < sizeLine := by rw [List.length_take, sizeLine_eq]; omega
    refine ⟨rcv_l va, a, _, _, rfl, rfl, sa, by rw [List.length_map]; exact szc, ?_⟩
    rw [sw]
    refine ⟨rcv_l asL_sup_same, ?_⟩
    simp only [s_seq, s_set, s_next, s_cont, s_break, s_expr, s_retN, s_var, s_c, s_op, s_nil, s_cons, s_cb, s_call, s_tup, s_lst, s_sub, s_bm, s_aug, s_asg, s_sl, s_nopart, s_part, s_ret, s_ifs, s_if, s_test, s_not, s_and, s_or, s_andV, s_orV, s_notV, s_oI, s_add, s_mul, s_cmp, s_cmps, s_eq, s_eqs, s_eqb, s_lc, s_for, s_ex, s_pn, s_pc, s_disp, s_r1, s_r2, s_e, s_z, wipeD, s_setdN, s_tcount, s_xget, s_get, s_fld, s_meth, s_make, s_raise, s_raiseI, s_dget2, List.getElem?_cons_zero, List.getElem?_cons_succ, List.set_cons_zero, List.set_cons_succ, Option.some.injEq, exists_eq_left', exists_eq_left, startD, List.map_cons, List.map_nil, List.length_cons, List.length_nil, List.replicate_succ, List.replicate_zero, List.append_nil, List.cons_append, List.nil_append, D.bl.injEq, D.int.injEq, D.str.injEq, D.tupz.injEq, D.ref.injEq, decide_eq_true_eq, decide_eq_false_iff_not, Bool.bne_false, Bool.bne_true, Nat.reduceAdd, Nat.reduceSub, Nat.reduceLeDiff, reduceCtorEq, true_and, and_true, false_implies, true_implies, imp_self, Bool.false_eq_true, forall_const]
    refine ⟨rfl, flats_sL, .inl (len_t rfl ?_)⟩
    simp only [s_seq, s_set, s_next, s_cont, s_break, s_expr, s_retN, s_var, s_c, s_op, s_nil, s_cons, s_cb, s_call, s_tup, s_lst, s_sub, s_bm, s_aug, s_asg, s_sl, s_nopart, s_part, s_ret, s_ifs, s_if, s_test, s_not, s_and, s_or, s_andV, s_orV, s_notV, s_oI, s_add, s_mul, s_cmp, s_cmps, s_eq, s_eqs, s_eqb, s_lc, s_for, s_ex, s_pn, s_pc, s_disp, s_r1, s_r2, s_e, s_z, wipeD, s_setdN, s_tcount, s_xget, s_get, s_fld, s_meth, s_make, s_raise, s_raiseI, s_dget2, List.getElem?_cons_zero, List.getElem?_cons_succ, List.set_cons_zero, List.set_cons_succ, Option.some.injEq, exists_eq_left', exists_eq_left, startD, List.map_cons, List.map_nil, List.length_cons, List.length_nil, List.replicate_succ, List.replicate_zero, List.append_nil, List.cons_append, List.nil_append, D.bl.injEq, D.int.injEq, D.str.injEq, D.tupz.injEq, D.ref.injEq, decide_eq_true_eq, decide_eq_false_iff_not, Bool.bne_false, Bool.bne_true, Nat.reduceAdd, Nat.reduceSub, Nat.reduceLeDiff, reduceCtorEq, true_and, and_true, false_implies, true_implies, imp_self, Bool.false_eq_true, forall_const]
    have ct := cnt_same hhd
    have fin : ∀ wd : D, wd = (if same (colOf ss i) then .str ((colOf ss i).headD (Str.ofString "")) else .non) →
        mAppend (.ref b) [wd] (sup (sup S a (.lst (((cols ss n).take i).map (fun c => D.tupz (sL c)) ++ [.tupz (sL (colOf ss i))]))) b (.lst (((cols ss n).take i).map fun c => if same c then .str (c.headD (Str.ofString "")) else .non))) fun d S1 =>
          (fun (ρ : AR) S' => S' = sup (sup S a (.lst (((cols ss n).take (i + 1)).map fun c => .tupz (sL c)))) b (.lst (((cols ss n).take (i + 1)).map fun c => if same c then .str (c.headD (Str.ofString "")) else .non)) ∧ ∃ x y z, ρ = [some (.lst (ss.map stD)), some (.lst (ss.map fun s => D.lst (sL s.flatten))), some (.ref a), some (.ref b), x, y, z, none, none]) [some (.lst (ss.map stD)), some (.lst (ss.map fun s => D.lst (sL s.flatten))), some (.ref a), some (.ref b), some (.int i), some (.str w), some (.tupz (sL (colOf ss i))), none, none] S1 := fun wd ew => by
      refine ⟨b, _, _, rfl, rfl, sup_same, by rw [List.length_map]; exact szc, ?_, _, _, _, rfl⟩
      rw [sup_sup, take_snoc (hcg i hi), List.map_append, List.map_append, ew]
      rfl
    refine ⟨fun h => fin _ ?_, fun h => fin _ ?_⟩
    · have hs' : same (colOf ss i) = true := ct.mp (by rw [List.length_map] at h; omega)
      rw [hs', if_pos rfl, hhd]
    · have hs' : same (colOf ss i) = false := by
        cases q : same (colOf ss i) with
        | false => rfl
        | true =>
          exfalso
          apply h
          rw [ct.mpr q, List.length_map]
      rw [hs', if_neg (by decide)]
  · subst e er
    have eE : (enumD (sL s0.flatten)).length = n := by rw [enumD_length, List.length_map, hn]
    rw [eE]
    have et : (cols ss n).take n = cols ss n := List.take_of_length_le (by omega)
    rw [et]
    simp only [s_seq, s_set, s_next, s_cont, s_break, s_expr, s_retN, s_var, s_c, s_op, s_nil, s_cons, s_cb, s_call, s_tup, s_lst, s_sub, s_bm, s_aug, s_asg, s_sl, s_nopart, s_part, s_ret, s_ifs, s_if, s_test, s_not, s_and, s_or, s_andV, s_orV, s_notV, s_oI, s_add, s_mul, s_cmp, s_cmps, s_eq, s_eqs, s_eqb, s_lc, s_for, s_ex, s_pn, s_pc, s_disp, s_r1, s_r2, s_e, s_z, wipeD, s_setdN, s_tcount, s_xget, s_get, s_fld, s_meth, s_make, s_raise, s_raiseI, s_dget2, List.getElem?_cons_zero, List.getElem?_cons_succ, List.set_cons_zero, List.set_cons_succ, Option.some.injEq, exists_eq_left', exists_eq_left, startD, List.map_cons, List.map_nil, List.length_cons, List.length_nil, List.replicate_succ, List.replicate_zero, List.append_nil, List.cons_append, List.nil_append, D.bl.injEq, D.int.injEq, D.str.injEq, D.tupz.injEq, D.ref.injEq, decide_eq_true_eq, decide_eq_false_iff_not, Bool.bne_false, Bool.bne_true, Nat.reduceAdd, Nat.reduceSub, Nat.reduceLeDiff, reduceCtorEq, true_and, and_true, false_implies, true_implies, imp_self, Bool.false_eq_true, forall_const]
    refine ⟨_, cols ss n, asL_sup_same, va, rfl, by rw [List.length_map], by omega, fun w hw => ?_, ?_⟩
    · obtain ⟨c', _, rfl⟩ := List.mem_map.mp hw
      split
      · exact .inr ⟨_, rfl⟩
      · exact .inl rfl
    · have e1 : ss.map stD = stD s0 :: sr.map stD := by rw [← hss]; rfl
      refine ix_l (xs := ss.map stD) rfl (by rw [e1]; exact at0) ?_
      refine ⟨_, s0, rfl, ?_, hs0, fun p S2 hfr => ?_⟩
      · have := opn_len (hs := []) (ws := (cols ss n).map fun c => if same c then D.str (c.headD (Str.ofString "")) else .non) (ks := cols ss n)
        omega
      · refine ⟨sdel (sdel S2 a) b, sub_del2, .inl (q p _ ?_)⟩
        have e2 : resR ss = cutL (opn [] ((cols ss n).map fun c => if same c then .str (c.headD (Str.ofString "")) else .non) (cols ss n)) (shp s0) := by
          unfold resR resI
          rw [← hss]
          dsimp only
          rw [hss, hn]
          have e3 : ss.headD [] = s0 := by rw [← hss]; rfl
          rw [e3]
        rw [e2]
        exact fr_forget ha hb0 (Ne.symm hba) hfr
end
end N42
set_option Elab.async false
set_option linter.all false
set_option maxRecDepth 100000
set_option maxHeartbeats 4000000
namespace N42
open PySem PySem.Spec PyProof.Rows L2 KR
section
variable {K : Kx} {S S' : Store} {Q : VQ} {E : EQ} {ds : List D} {a : Addr}
theorem p_law_asked (c : SaysB fa fn K.K) (h : A_law_asked K ds S Q E) : w_law_asked K (fun c p _ S' => E c p S') { nx := fun _ S' => Q .non S', rt := Q } (startD ["_law_given", "_law_caught", "_law_found", "_law_error"] ds) S := by
  obtain ⟨ss, rfl, hl, hs, q⟩ := h
  unfold w_law_asked
  simp only [s_seq, s_set, s_next, s_cont, s_break, s_expr, s_retN, s_var, s_c, s_op, s_nil, s_cons, s_cb, s_call, s_tup, s_lst, s_sub, s_bm, s_aug, s_asg, s_sl, s_nopart, s_part, s_ret, s_ifs, s_if, s_test, s_not, s_and, s_or, s_andV, s_orV, s_notV, s_oI, s_add, s_mul, s_cmp, s_cmps, s_eq, s_eqs, s_eqb, s_lc, s_for, s_ex, s_pn, s_pc, s_disp, s_r1, s_r2, s_e, s_z, wipeD, s_setdN, s_tcount, s_xget, s_get, s_fld, s_meth, s_make, s_raise, s_raiseI, s_dget2, List.getElem?_cons_zero, List.getElem?_cons_succ, List.set_cons_zero, List.set_cons_succ, Option.some.injEq, exists_eq_left', exists_eq_left, startD, List.map_cons, List.map_nil, List.length_cons, List.length_nil, List.replicate_succ, List.replicate_zero, List.append_nil, List.cons_append, List.nil_append, D.bl.injEq, D.int.injEq, D.str.injEq, D.tupz.injEq, D.ref.injEq, decide_eq_true_eq, decide_eq_false_iff_not, Bool.bne_false, Bool.bne_true, Nat.reduceAdd, Nat.reduceSub, Nat.reduceLeDiff, reduceCtorEq, true_and, and_true, false_implies, true_implies, imp_self, Bool.false_eq_true, forall_const, s_try]
  refine ⟨ss, rfl, hl, hs, ?_⟩
  have shape : ∀ r : Nat, bad (ss.map shp) = some r → ss ≠ [] → True := fun _ _ _ => trivial
  cases hss : ss with
  | nil =>
    subst hss
    refine ⟨true, _, rfl, e_NoRows_KinError c, fun _ => ?_, fun h => (nomatch h)⟩
    refine ⟨false, rfl, ⟨fun h => (nomatch h), fun _ => ?_⟩⟩
    refine isiE rfl (x_NoRows c) (k_NoRows_Shape c) ⟨false, rfl, ⟨fun h => (nomatch h), fun _ => ?_⟩⟩
    refine ⟨[], .inr ⟨rfl, ?_⟩⟩
    exact ⟨by decide, ret_ q⟩
  | cons s0 sr =>
    unfold formQ
    unfold answer at q
    rw [hss] at q
    dsimp only at q ⊢
    cases hb : bad ((s0 :: sr).map shp) with
    | some r =>
      rw [hb] at q
      dsimp only at q ⊢
      refine ⟨true, _, rfl, e_Shape_KinError c, fun _ => ?_, fun h => (nomatch h)⟩
      refine ⟨false, rfl, ⟨fun h => (nomatch h), fun _ => ?_⟩⟩
      refine isiE rfl (x_Shape c) (k_Shape_Shape c) ⟨true, rfl, ⟨fun _ => ?_, fun h => (nomatch h)⟩⟩
      refine ⟨_, .inl ⟨rfl, ?_⟩⟩
      refine ⟨_, _, _, rfl, (fun z => nomatch z), x_Shape c, n_Shape_row c, rfl, ?_⟩
      exact ⟨by decide, .inl (add_l rfl rfl (by rw [sizeLine_eq]; show 8 ≤ 16777216; decide) (.inl ⟨by decide, ret_ q⟩))⟩
    | none =>
      rw [hb] at q
      dsimp only at q ⊢
      intro p S1 hf
      refine ⟨true, rfl, ⟨fun _ => ⟨by decide, ret_ ?_⟩, fun h => (nomatch h)⟩⟩
      exact q p S1 hf
theorem paired_of {α β : Type} {F : α → β → Prop} : ∀ {xs : List α} {ys : List β}, xs.length = ys.length → (∀ (i : Nat) (x : α) (y : β), xs[i]? = some x → ys[i]? = some y → F x y) → Paired F xs ys
  | [], [], _, _ => .nil
  | x :: xs, y :: ys, hl, h => .cons (h 0 x y rfl rfl) (paired_of (by simpa using hl) fun i a b ha hb => h (i + 1) a b ha hb)
theorem okI_isT {d : D} (h : okI d = true) : isT d = true := by
  cases d with
  | int i => unfold isT; rfl
  | str x => unfold isT; exact h
  | _ => cases h
theorem okI_dp {d : D} (h : okI d = true) : dpD d = 0 := by
  cases d with
  | int i => unfold dpD; rfl
  | str x => unfold dpD; rfl
  | _ => cases h
theorem rows_ok {rs : List (List D)} (h : ∀ r ∈ rs, r.all okI = true) : isT (.lst (rs.map .lst)) = true ∧ dpD (.lst (rs.map .lst)) ≤ 2 := by
  constructor
  · unfold isT
    refine isTs_all fun d hd => ?_
    obtain ⟨r, hr, rfl⟩ := List.mem_map.mp hd
    unfold isT
    exact isTs_all fun x hx => okI_isT (List.all_eq_true.mp (h r hr) x hx)
  · unfold dpD
    have : dpDs (rs.map .lst) ≤ 1 := dpDs_le fun d hd => by
      obtain ⟨r, hr, rfl⟩ := List.mem_map.mp hd
      unfold dpD
      have : dpDs r ≤ 0 := dpDs_le fun x hx => by rw [okI_dp (List.all_eq_true.mp (h r hr) x hx)]; exact Nat.le_refl _
      omega
    omega
theorem p_law_own (c : SaysB fa fn K.K) (h : A_law_own K ds S Q E) : w_law_own K (fun c p _ S' => E c p S') { nx := fun _ S' => Q .non S', rt := Q } (startD ["_law_found", "_law_kept", "_law_row"] ds) S := by
  obtain ⟨p, as, rs, rfl, hn, hp, hS, hpr, hok, q⟩ := h
  have hlen := Paired.length hpr
  have eL : ∀ {S : Store} {b : Addr} {xs : List D}, S b = some (.lst xs) → asL S (.ref b) = some xs := fun {S b xs} h => by
    show (match S b with | some (.lst xs) => some xs | _ => none) = _
    rw [h]
  unfold w_law_own
  simp only [s_seq, s_set, s_next, s_cont, s_break, s_expr, s_retN, s_var, s_c, s_op, s_nil, s_cons, s_cb, s_call, s_tup, s_lst, s_sub, s_bm, s_aug, s_asg, s_sl, s_nopart, s_part, s_ret, s_ifs, s_if, s_test, s_not, s_and, s_or, s_andV, s_orV, s_notV, s_oI, s_add, s_mul, s_cmp, s_cmps, s_eq, s_eqs, s_eqb, s_lc, s_for, s_ex, s_pn, s_pc, s_disp, s_r1, s_r2, s_e, s_z, wipeD, s_setdN, s_tcount, s_xget, s_get, s_fld, s_meth, s_make, s_raise, s_raiseI, s_dget2, List.getElem?_cons_zero, List.getElem?_cons_succ, List.set_cons_zero, List.set_cons_succ, Option.some.injEq, exists_eq_left', exists_eq_left, startD, List.map_cons, List.map_nil, List.length_cons, List.length_nil, List.replicate_succ, List.replicate_zero, List.append_nil, List.cons_append, List.nil_append, D.bl.injEq, D.int.injEq, D.str.injEq, D.tupz.injEq, D.ref.injEq, decide_eq_true_eq, decide_eq_false_iff_not, Bool.bne_false, Bool.bne_true, Nat.reduceAdd, Nat.reduceSub, Nat.reduceLeDiff, reduceCtorEq, true_and, and_true, false_implies, true_implies, imp_self, Bool.false_eq_true, forall_const]
  have ll : LL S (.ref p) rs := ⟨as.map .ref, eL hS, paired_of (by rw [List.length_map]; exact hlen) fun i x r hx hr => by
    rw [List.getElem?_map] at hx
    obtain ⟨b, hb, rfl⟩ := Option.map_eq_some_iff.mp hx
    obtain ⟨r', hr', h'⟩ := L2.paired_get hpr hb
    rw [hr] at hr'
    cases hr'
    exact eL h'⟩
  refine ⟨_, rs, rfl, ll, ?_⟩
  refine wi_l ?_
  simp only [s_seq, s_set, s_next, s_cont, s_break, s_expr, s_retN, s_var, s_c, s_op, s_nil, s_cons, s_cb, s_call, s_tup, s_lst, s_sub, s_bm, s_aug, s_asg, s_sl, s_nopart, s_part, s_ret, s_ifs, s_if, s_test, s_not, s_and, s_or, s_andV, s_orV, s_notV, s_oI, s_add, s_mul, s_cmp, s_cmps, s_eq, s_eqs, s_eqb, s_lc, s_for, s_ex, s_pn, s_pc, s_disp, s_r1, s_r2, s_e, s_z, wipeD, s_setdN, s_tcount, s_xget, s_get, s_fld, s_meth, s_make, s_raise, s_raiseI, s_dget2, List.getElem?_cons_zero, List.getElem?_cons_succ, List.set_cons_zero, List.set_cons_succ, Option.some.injEq, exists_eq_left', exists_eq_left, startD, List.map_cons, List.map_nil, List.length_cons, List.length_nil, List.replicate_succ, List.replicate_zero, List.append_nil, List.cons_append, List.nil_append, D.bl.injEq, D.int.injEq, D.str.injEq, D.tupz.injEq, D.ref.injEq, decide_eq_true_eq, decide_eq_false_iff_not, Bool.bne_false, Bool.bne_true, Nat.reduceAdd, Nat.reduceSub, Nat.reduceLeDiff, reduceCtorEq, true_and, and_true, false_implies, true_implies, imp_self, Bool.false_eq_true, forall_const]
  refine ⟨as.map .ref, eL hS, fun _ => ?_⟩
  refine ⟨fun i ρ S' => (S' p = some (.lst (as.map .ref)) ∧ ∀ (j : Nat) (b : Addr) (r : List D), as[j]? = some b → rs[j]? = some r → S' b = some (.lst (if j < i then r ++ [.str "x"] else r))) ∧ (∀ b, b ∉ as → S' b = S b) ∧ ∃ y, ρ = [some (.ref p), some (.lst (rs.map .lst)), y],
    ⟨⟨hS, fun j b r hb hr => ?_⟩, fun _ _ => rfl, none, rfl⟩, fun i ρ S' _ ⟨⟨h, _⟩, _⟩ => eL h, fun i d ρ S' hd ⟨⟨h1, h2⟩, h3, y, er⟩ => ?_, fun ρ S' ⟨⟨h1, h2⟩, h3, y, er⟩ => ?_⟩
  · obtain ⟨r', hr', h'⟩ := L2.paired_get hpr hb
    rw [hr] at hr'
    cases hr'
    rw [if_neg (Nat.not_lt_zero _)]
    exact h'
  · subst er
    rw [List.getElem?_map] at hd
    obtain ⟨b, hb, rfl⟩ := Option.map_eq_some_iff.mp hd
    have hi := (List.getElem?_eq_some_iff.mp hb).1
    obtain ⟨r, hr, _⟩ := L2.paired_get hpr hb
    have hbS := h2 i b r hb hr
    rw [if_neg (Nat.lt_irrefl _)] at hbS
    have hbp : b ≠ p := fun e => hp (by rw [← e]; exact List.mem_of_getElem? hb)
    refine ⟨_, rfl, ?_⟩
    simp only [s_seq, s_set, s_next, s_cont, s_break, s_expr, s_retN, s_var, s_c, s_op, s_nil, s_cons, s_cb, s_call, s_tup, s_lst, s_sub, s_bm, s_aug, s_asg, s_sl, s_nopart, s_part, s_ret, s_ifs, s_if, s_test, s_not, s_and, s_or, s_andV, s_orV, s_notV, s_oI, s_add, s_mul, s_cmp, s_cmps, s_eq, s_eqs, s_eqb, s_lc, s_for, s_ex, s_pn, s_pc, s_disp, s_r1, s_r2, s_e, s_z, wipeD, s_setdN, s_tcount, s_xget, s_get, s_fld, s_meth, s_make, s_raise, s_raiseI, s_dget2, List.getElem?_cons_zero, List.getElem?_cons_succ, List.set_cons_zero, List.set_cons_succ, Option.some.injEq, exists_eq_left', exists_eq_left, startD, List.map_cons, List.map_nil, List.length_cons, List.length_nil, List.replicate_succ, List.replicate_zero, List.append_nil, List.cons_append, List.nil_append, D.bl.injEq, D.int.injEq, D.str.injEq, D.tupz.injEq, D.ref.injEq, decide_eq_true_eq, decide_eq_false_iff_not, Bool.bne_false, Bool.bne_true, Nat.reduceAdd, Nat.reduceSub, Nat.reduceLeDiff, reduceCtorEq, true_and, and_true, false_implies, true_implies, imp_self, Bool.false_eq_true, forall_const]
    refine ⟨rcv_l (eL hbS), b, r, _, rfl, rfl, hbS, ?_, ⟨by rw [sup_ne (Ne.symm hbp)]; exact h1, fun j b' r' hb' hr' => ?_⟩, fun e he => ?_, some (.ref b), rfl⟩
    · have := (hok r (List.mem_of_getElem? hr)).1
      rw [sizeLine_eq]
      omega
    · by_cases e : j = i
      · subst e
        rw [hb] at hb'
        rw [hr] at hr'
        cases hb'
        cases hr'
        rw [sup_same, if_pos (Nat.lt_succ_self _)]
      · have ne : b' ≠ b := fun e' => by
          subst e'
          exact e ((List.getElem?_inj (List.getElem?_eq_some_iff.mp hb').1 hn).mp (hb'.trans hb.symm))
        rw [sup_ne ne, h2 j b' r' hb' hr']
        by_cases hlt : j < i
        · rw [if_pos hlt, if_pos (by omega)]
        · rw [if_neg hlt, if_neg (by omega)]
    · have ne : e ≠ b := fun q => he (by rw [q]; exact List.mem_of_getElem? hb)
      rw [sup_ne ne]
      exact h3 e he
  · subst er
    rw [List.length_map] at h2
    simp only [s_seq, s_set, s_next, s_cont, s_break, s_expr, s_retN, s_var, s_c, s_op, s_nil, s_cons, s_cb, s_call, s_tup, s_lst, s_sub, s_bm, s_aug, s_asg, s_sl, s_nopart, s_part, s_ret, s_ifs, s_if, s_test, s_not, s_and, s_or, s_andV, s_orV, s_notV, s_oI, s_add, s_mul, s_cmp, s_cmps, s_eq, s_eqs, s_eqb, s_lc, s_for, s_ex, s_pn, s_pc, s_disp, s_r1, s_r2, s_e, s_z, wipeD, s_setdN, s_tcount, s_xget, s_get, s_fld, s_meth, s_make, s_raise, s_raiseI, s_dget2, List.getElem?_cons_zero, List.getElem?_cons_succ, List.set_cons_zero, List.set_cons_succ, Option.some.injEq, exists_eq_left', exists_eq_left, startD, List.map_cons, List.map_nil, List.length_cons, List.length_nil, List.replicate_succ, List.replicate_zero, List.append_nil, List.cons_append, List.nil_append, D.bl.injEq, D.int.injEq, D.str.injEq, D.tupz.injEq, D.ref.injEq, decide_eq_true_eq, decide_eq_false_iff_not, Bool.bne_false, Bool.bne_true, Nat.reduceAdd, Nat.reduceSub, Nat.reduceLeDiff, reduceCtorEq, true_and, and_true, false_implies, true_implies, imp_self, Bool.false_eq_true, forall_const]
    refine ⟨false, wi_l ?_⟩
    simp only [s_seq, s_set, s_next, s_cont, s_break, s_expr, s_retN, s_var, s_c, s_op, s_nil, s_cons, s_cb, s_call, s_tup, s_lst, s_sub, s_bm, s_aug, s_asg, s_sl, s_nopart, s_part, s_ret, s_ifs, s_if, s_test, s_not, s_and, s_or, s_andV, s_orV, s_notV, s_oI, s_add, s_mul, s_cmp, s_cmps, s_eq, s_eqs, s_eqb, s_lc, s_for, s_ex, s_pn, s_pc, s_disp, s_r1, s_r2, s_e, s_z, wipeD, s_setdN, s_tcount, s_xget, s_get, s_fld, s_meth, s_make, s_raise, s_raiseI, s_dget2, List.getElem?_cons_zero, List.getElem?_cons_succ, List.set_cons_zero, List.set_cons_succ, Option.some.injEq, exists_eq_left', exists_eq_left, startD, List.map_cons, List.map_nil, List.length_cons, List.length_nil, List.replicate_succ, List.replicate_zero, List.append_nil, List.cons_append, List.nil_append, D.bl.injEq, D.int.injEq, D.str.injEq, D.tupz.injEq, D.ref.injEq, decide_eq_true_eq, decide_eq_false_iff_not, Bool.bne_false, Bool.bne_true, Nat.reduceAdd, Nat.reduceSub, Nat.reduceLeDiff, reduceCtorEq, true_and, and_true, false_implies, true_implies, imp_self, Bool.false_eq_true, forall_const]
    refine ⟨_, rfl, fun hz => ?_⟩
    refine lc_map (fun x => .lst ((asL S' x).getD [] ++ [.str "x"])) (fun b us hb => rfl) (fun x hx b us hb' => ⟨_, rfl, fun Q' hQ => ?_⟩) hz ?_
    · simp only [s_seq, s_set, s_next, s_cont, s_break, s_expr, s_retN, s_var, s_c, s_op, s_nil, s_cons, s_cb, s_call, s_tup, s_lst, s_sub, s_bm, s_aug, s_asg, s_sl, s_nopart, s_part, s_ret, s_ifs, s_if, s_test, s_not, s_and, s_or, s_andV, s_orV, s_notV, s_oI, s_add, s_mul, s_cmp, s_cmps, s_eq, s_eqs, s_eqb, s_lc, s_for, s_ex, s_pn, s_pc, s_disp, s_r1, s_r2, s_e, s_z, wipeD, s_setdN, s_tcount, s_xget, s_get, s_fld, s_meth, s_make, s_raise, s_raiseI, s_dget2, List.getElem?_cons_zero, List.getElem?_cons_succ, List.set_cons_zero, List.set_cons_succ, Option.some.injEq, exists_eq_left', exists_eq_left, startD, List.map_cons, List.map_nil, List.length_cons, List.length_nil, List.replicate_succ, List.replicate_zero, List.append_nil, List.cons_append, List.nil_append, D.bl.injEq, D.int.injEq, D.str.injEq, D.tupz.injEq, D.ref.injEq, decide_eq_true_eq, decide_eq_false_iff_not, Bool.bne_false, Bool.bne_true, Nat.reduceAdd, Nat.reduceSub, Nat.reduceLeDiff, reduceCtorEq, true_and, and_true, false_implies, true_implies, imp_self, Bool.false_eq_true, forall_const]
      obtain ⟨r, hr, rfl⟩ := List.mem_map.mp hx
      refine ⟨by decide, .inl (add_l rfl rfl ?_ (.inl hQ))⟩
      have := (hok r hr).1
      rw [sizeLine_eq]
      show r.length + 1 ≤ _
      omega
    · have e : (rs.map D.lst).map (fun x => D.lst ((asL S' x).getD [] ++ [.str "x"])) = (rs.map (· ++ [.str "x"])).map D.lst := by
        rw [List.map_map, List.map_map]
        rfl
      rw [e]
      have ok' : ∀ r ∈ rs.map (· ++ [D.str "x"]), r.all okI = true := fun r hr => by
        obtain ⟨r', hr', rfl⟩ := List.mem_map.mp hr
        rw [List.all_append, (hok r' hr').2]
        decide +kernel
      obtain ⟨t1, t2⟩ := rows_ok ok'
      dsimp only [newL]
      refine eq_same (p := toP (.lst ((rs.map (· ++ [.str "x"])).map D.lst))) rfl (pv_rows (eL h1) (paired_of ?_ fun i x r hx hr => ?_) fun r hr => isTs_all fun x hx => okI_isT (List.all_eq_true.mp (ok' r hr) x hx)) (pv_toP t1) (lay_toP t1) (by rw [dp_toP]; omega) (ret_ (q S' h3))
      · rw [List.length_map, List.length_map]; exact hlen
      · rw [List.getElem?_map] at hx hr
        obtain ⟨b, hb, rfl⟩ := Option.map_eq_some_iff.mp hx
        obtain ⟨r', hr', rfl⟩ := Option.map_eq_some_iff.mp hr
        have := h2 i b r' hb hr'
        rw [if_pos (List.getElem?_eq_some_iff.mp hb).1] at this
        exact eL this
end
end N42
set_option Elab.async false
set_option linter.all false
set_option maxRecDepth 100000
set_option maxHeartbeats 4000000
namespace N42
open PySem PySem.Spec PyProof.Rows L2 KR
section
variable {K : Kx} {S S' : Store} {Q : VQ} {E : EQ} {ds : List D} {a : Addr}
theorem small_isTs {s : List (List Str)} (h : Small s) : isTs (rowsD s) = true ∧ dpDs (rowsD s) ≤ 1 := by
  constructor
  · refine isTs_all fun d hd => ?_
    obtain ⟨r, hr, rfl⟩ := List.mem_map.mp hd
    unfold isT
    exact isTs_str fun w hw => h.2.2 r hr w hw
  · refine dpDs_le fun d hd => ?_
    obtain ⟨r, hr, rfl⟩ := List.mem_map.mp hd
    unfold dpD
    rw [dpDs_str]
    exact Nat.le_refl _
theorem Small.app {s t : List (List Str)} (h1 : Small s) (h2 : Small t) (h : s.length + t.length ≤ 60) : Small (s ++ t) := ⟨by rw [List.length_append]; exact h, fun r hr => (List.mem_append.mp hr).elim (h1.2.1 r) (h2.2.1 r), fun r hr => (List.mem_append.mp hr).elim (h1.2.2 r) (h2.2.2 r)⟩
theorem Small.sub {s t : List (List Str)} (h1 : Small s) (h : t.length ≤ s.length) (hm : ∀ r ∈ t, r ∈ s) : Small t := ⟨Nat.le_trans h h1.1, fun r hr => h1.2.1 r (hm r hr), fun r hr => h1.2.2 r (hm r hr)⟩
theorem Small.take {s : List (List Str)} (h : Small s) (n : Nat) : Small (s.take n) := h.sub (by rw [List.length_take]; omega) fun r hr => List.mem_of_mem_take hr
theorem Small.drop {s : List (List Str)} (h : Small s) (n : Nat) : Small (s.drop n) := h.sub (by rw [List.length_drop]; omega) fun r hr => List.mem_of_mem_drop hr
theorem Small.one {r : List Str} (h : r.length ≤ 30) (ho : ∀ w ∈ r, sOk w) : Small [r] := ⟨by show 1 ≤ 60; decide, fun x hx => by rw [List.mem_singleton.mp hx]; exact h, fun x hx => by rw [List.mem_singleton.mp hx]; exact ho⟩
theorem rowsD_take {s : List (List Str)} {n : Nat} : cutD (rowsD s) none (some (n : Int)) = rowsD (s.take n) := by rw [cutD_to, ← List.map_take]
theorem rowsD_drop {s : List (List Str)} {n : Nat} : cutD (rowsD s) (some (n : Int)) none = rowsD (s.drop n) := by rw [cutD_from, ← List.map_drop]
theorem sL_take {s : List Str} {n : Nat} : cutD (sL s) none (some (n : Int)) = sL (s.take n) := by rw [cutD_to, ← List.map_take]
theorem sL_drop {s : List Str} {n : Nat} : cutD (sL s) (some (n : Int)) none = sL (s.drop n) := by rw [cutD_from, ← List.map_drop]
theorem rowsD_app {s t : List (List Str)} : rowsD s ++ rowsD t = rowsD (s ++ t) := List.map_append.symm
theorem sL_app {s t : List Str} : sL s ++ sL t = sL (s ++ t) := List.map_append.symm
theorem modp {place : Int} {len : Nat} (h : 0 ≤ place) : ∃ n : Nat, place % (if (len : Int) > 1 then (len : Int) else 1) = (n : Int) ∧ n ≤ len ∧ (len ≠ 0 → n < len) := by
  have h0 : 0 ≤ place % (if (len : Int) > 1 then (len : Int) else 1) := Int.emod_nonneg _ (by split <;> omega)
  obtain ⟨n, hn⟩ := Int.eq_ofNat_of_zero_le h0
  have h1 : place % (if (len : Int) > 1 then (len : Int) else 1) < (if (len : Int) > 1 then (len : Int) else 1) := Int.emod_lt_of_pos _ (by split <;> omega)
  rw [hn] at h1
  refine ⟨n, hn, ?_, ?_⟩
  · split at h1 <;> omega
  · intro h2; split at h1 <;> omega
/-- a + [..] + b of rows -/
theorem mid {s t u : List (List Str)} {S : Store} {Q : VQ} (h : s.length + t.length + u.length ≤ 1000) (q : Q (stD (s ++ t ++ u)) S) :
    oAddB (.lst (rowsD s)) (.lst (rowsD t)) S fun x S1 => oAddB x (.lst (rowsD u)) S1 Q := by
  refine add_l rfl rfl (by rw [List.length_map, List.length_map, sizeLine_eq]; omega) (.inl ?_)
  rw [rowsD_app]
  refine add_l rfl rfl (by rw [List.length_map, List.length_map, List.length_append, sizeLine_eq]; omega) (.inl ?_)
  rw [rowsD_app]
  exact q
theorem p_law_reshaped (c : SaysB fa fn K.K) (h : A_law_reshaped K ds S Q E) : w_law_reshaped K (fun c p _ S' => E c p S') { nx := fun _ S' => Q .non S', rt := Q } (startD ["_law_way", "_law_place", "_law_rows", "_law_at", "_law_row", "_law_k"] ds) S := by
  obtain ⟨way, place, rs, rfl, h0, hs, q⟩ := h
  unfold w_law_reshaped
  simp only [s_seq, s_set, s_next, s_cont, s_break, s_expr, s_retN, s_var, s_c, s_op, s_nil, s_cons, s_cb, s_call, s_tup, s_lst, s_sub, s_bm, s_aug, s_asg, s_sl, s_nopart, s_part, s_ret, s_ifs, s_if, s_test, s_not, s_and, s_or, s_andV, s_orV, s_notV, s_oI, s_add, s_mul, s_cmp, s_cmps, s_eq, s_eqs, s_eqb, s_lc, s_for, s_ex, s_pn, s_pc, s_disp, s_r1, s_r2, s_e, s_z, wipeD, s_setdN, s_tcount, s_xget, s_get, s_fld, s_meth, s_make, s_raise, s_raiseI, s_dget2, List.getElem?_cons_zero, List.getElem?_cons_succ, List.set_cons_zero, List.set_cons_succ, Option.some.injEq, exists_eq_left', exists_eq_left, startD, List.map_cons, List.map_nil, List.length_cons, List.length_nil, List.replicate_succ, List.replicate_zero, List.append_nil, List.cons_append, List.nil_append, D.bl.injEq, D.int.injEq, D.str.injEq, D.tupz.injEq, D.ref.injEq, decide_eq_true_eq, decide_eq_false_iff_not, Bool.bne_false, Bool.bne_true, Nat.reduceAdd, Nat.reduceSub, Nat.reduceLeDiff, reduceCtorEq, true_and, and_true, false_implies, true_implies, imp_self, Bool.false_eq_true, forall_const]
  refine .inl (len_l rfl ?_)
  rw [s_max2, List.length_map]
  obtain ⟨n, hn, n1, n2⟩ := modp (len := rs.length) h0
  refine ⟨by split <;> omega, ?_⟩
  dsimp only
  rw [hn]
  have hl := hs.1
  have e1 : (rs.take n).length = n := by rw [List.length_take, Nat.min_eq_left n1]
  have e2 : (rs.drop n).length = rs.length - n := List.length_drop
  have e2' : (rs.drop (n + 1)).length = rs.length - (n + 1) := List.length_drop
  have e2'' : (rs.drop (n + 2)).length = rs.length - (n + 2) := List.length_drop
  have cn : ((n : Int) + 1) = ((n + 1 : Nat) : Int) := rfl
  have cn2 : ((n : Int) + 2) = ((n + 2 : Nat) : Int) := rfl
  have sl : ∀ {x : Nat} {Q : VQ}, Q (.lst (rowsD (rs.take x))) S → oSlB (stD rs) none (some (x : Int)) S Q := fun {x Q} h => slB rfl (.inl (by rw [rowsD_take]; exact h))
  have sr : ∀ {x : Nat} {Q : VQ}, Q (.lst (rowsD (rs.drop x))) S → oSlB (stD rs) (some (x : Int)) none S Q := fun {x Q} h => slB rfl (.inl (by rw [rowsD_drop]; exact h))
  refine ⟨fun ρ' S' => ρ' = [some (.int way), some (.int place), some (stD rs), some (.int n), none, none] ∧ S' = S, ?_, ?_⟩
  · simp only [s_seq, s_set, s_next, s_cont, s_break, s_expr, s_retN, s_var, s_c, s_op, s_nil, s_cons, s_cb, s_call, s_tup, s_lst, s_sub, s_bm, s_aug, s_asg, s_sl, s_nopart, s_part, s_ret, s_ifs, s_if, s_test, s_not, s_and, s_or, s_andV, s_orV, s_notV, s_oI, s_add, s_mul, s_cmp, s_cmps, s_eq, s_eqs, s_eqb, s_lc, s_for, s_ex, s_pn, s_pc, s_disp, s_r1, s_r2, s_e, s_z, wipeD, s_setdN, s_tcount, s_xget, s_get, s_fld, s_meth, s_make, s_raise, s_raiseI, s_dget2, List.getElem?_cons_zero, List.getElem?_cons_succ, List.set_cons_zero, List.set_cons_succ, Option.some.injEq, exists_eq_left', exists_eq_left, startD, List.map_cons, List.map_nil, List.length_cons, List.length_nil, List.replicate_succ, List.replicate_zero, List.append_nil, List.cons_append, List.nil_append, D.bl.injEq, D.int.injEq, D.str.injEq, D.tupz.injEq, D.ref.injEq, decide_eq_true_eq, decide_eq_false_iff_not, Bool.bne_false, Bool.bne_true, Nat.reduceAdd, Nat.reduceSub, Nat.reduceLeDiff, reduceCtorEq, true_and, and_true, false_implies, true_implies, imp_self, Bool.false_eq_true, forall_const]
    refine ⟨fun hw => .inl (len_l rfl ?_), fun hw => trivial⟩
    simp only [s_seq, s_set, s_next, s_cont, s_break, s_expr, s_retN, s_var, s_c, s_op, s_nil, s_cons, s_cb, s_call, s_tup, s_lst, s_sub, s_bm, s_aug, s_asg, s_sl, s_nopart, s_part, s_ret, s_ifs, s_if, s_test, s_not, s_and, s_or, s_andV, s_orV, s_notV, s_oI, s_add, s_mul, s_cmp, s_cmps, s_eq, s_eqs, s_eqb, s_lc, s_for, s_ex, s_pn, s_pc, s_disp, s_r1, s_r2, s_e, s_z, wipeD, s_setdN, s_tcount, s_xget, s_get, s_fld, s_meth, s_make, s_raise, s_raiseI, s_dget2, List.getElem?_cons_zero, List.getElem?_cons_succ, List.set_cons_zero, List.set_cons_succ, Option.some.injEq, exists_eq_left', exists_eq_left, startD, List.map_cons, List.map_nil, List.length_cons, List.length_nil, List.replicate_succ, List.replicate_zero, List.append_nil, List.cons_append, List.nil_append, D.bl.injEq, D.int.injEq, D.str.injEq, D.tupz.injEq, D.ref.injEq, decide_eq_true_eq, decide_eq_false_iff_not, Bool.bne_false, Bool.bne_true, Nat.reduceAdd, Nat.reduceSub, Nat.reduceLeDiff, reduceCtorEq, true_and, and_true, false_implies, true_implies, imp_self, Bool.false_eq_true, forall_const]
    rw [List.length_map]
    refine ⟨fun hlt => sl ⟨by decide, .inl ⟨by decide, .inl ?_⟩⟩, fun hlt => trivial⟩
    refine add_l rfl rfl (by rw [List.length_map, sizeLine_eq]; show _ + 1 ≤ _; omega) (.inl (sr ?_))
    refine add_l rfl rfl (by rw [List.length_append, List.length_map, List.length_map, sizeLine_eq]; show _ + 1 + _ ≤ _; omega) (.inl (ret_ ?_))
    have := q (rs.take n ++ [[]] ++ rs.drop n) (((hs.take n).app (.one (by decide) (by intro w hw; cases hw)) (by show _ + 1 ≤ _; omega)).app (hs.drop n) (by rw [List.length_append]; show _ + 1 + _ ≤ _; omega))
    rw [stD, rowsD, List.map_append, List.map_append] at this
    exact this
  rintro ρ' S' ⟨rfl, rfl⟩
  simp only [s_seq, s_set, s_next, s_cont, s_break, s_expr, s_retN, s_var, s_c, s_op, s_nil, s_cons, s_cb, s_call, s_tup, s_lst, s_sub, s_bm, s_aug, s_asg, s_sl, s_nopart, s_part, s_ret, s_ifs, s_if, s_test, s_not, s_and, s_or, s_andV, s_orV, s_notV, s_oI, s_add, s_mul, s_cmp, s_cmps, s_eq, s_eqs, s_eqb, s_lc, s_for, s_ex, s_pn, s_pc, s_disp, s_r1, s_r2, s_e, s_z, wipeD, s_setdN, s_tcount, s_xget, s_get, s_fld, s_meth, s_make, s_raise, s_raiseI, s_dget2, List.getElem?_cons_zero, List.getElem?_cons_succ, List.set_cons_zero, List.set_cons_succ, Option.some.injEq, exists_eq_left', exists_eq_left, startD, List.map_cons, List.map_nil, List.length_cons, List.length_nil, List.replicate_succ, List.replicate_zero, List.append_nil, List.cons_append, List.nil_append, D.bl.injEq, D.int.injEq, D.str.injEq, D.tupz.injEq, D.ref.injEq, decide_eq_true_eq, decide_eq_false_iff_not, Bool.bne_false, Bool.bne_true, Nat.reduceAdd, Nat.reduceSub, Nat.reduceLeDiff, reduceCtorEq, true_and, and_true, false_implies, true_implies, imp_self, Bool.false_eq_true, forall_const]
  refine ⟨by decide, .inl (eq_nil (small_isTs hs).1 (Nat.le_trans (small_isTs hs).2 (by decide)) ?_)⟩
  refine ⟨_, rfl, fun _ => ret_ (q rs hs), fun hne => ?_⟩
  have hne : rs ≠ [] := fun e => by
    subst e
    cases hne
  have hlt : n < rs.length := n2 (fun e => hne (List.length_eq_zero_iff.mp e))
  obtain ⟨row, hrow⟩ : ∃ row, rs[n]? = some row := ⟨_, List.getElem?_eq_getElem hlt⟩
  have hrm : row ∈ rs := List.mem_of_getElem? hrow
  have hrl := hs.2.1 row hrm
  have hro := hs.2.2 row hrm
  refine ix_l rfl (atI_nat (j := n) (v := .lst (sL row)) (by rw [List.getElem?_map, hrow]; rfl)) ?_
  refine ⟨⟨by decide, by decide⟩, .inl (len_l rfl ?_)⟩
  rw [s_max2, List.length_map]
  obtain ⟨k, hk, k1, k2⟩ := modp (len := row.length) (place := place / 61) (by omega)
  refine ⟨by split <;> omega, ?_⟩
  dsimp only
  rw [hk]
  have rl : ∀ {x : Nat} {Q : VQ}, Q (.lst (sL (row.take x))) S' → oSlB (.lst (sL row)) none (some (x : Int)) S' Q := fun {x Q} h => slB rfl (.inl (by rw [sL_take]; exact h))
  have rr : ∀ {x : Nat} {Q : VQ}, Q (.lst (sL (row.drop x))) S' → oSlB (.lst (sL row)) (some (x : Int)) none S' Q := fun {x Q} h => slB rfl (.inl (by rw [sL_drop]; exact h))
  have ck : ((k : Int) + 1) = ((k + 1 : Nat) : Int) := rfl
  have f1 : (row.take k).length ≤ k := by rw [List.length_take]; omega
  have f2 : (row.drop k).length = row.length - k := List.length_drop
  have f3 : (row.drop (k + 1)).length = row.length - (k + 1) := List.length_drop
  have okt : ∀ x, ∀ w ∈ row.take x, sOk w := fun x w hw => hro w (List.mem_of_mem_take hw)
  have okd : ∀ x, ∀ w ∈ row.drop x, sOk w := fun x w hw => hro w (List.mem_of_mem_drop hw)
  have fin : ∀ {mid : List (List Str)} {m : Nat}, Small mid → n + mid.length + (rs.length - m) ≤ 60 → Q (stD (rs.take n ++ mid ++ rs.drop m)) S' := fun {mid m} h hz => q _ (((hs.take n).app h (by omega)).app (hs.drop m) (by rw [List.length_append, e1, List.length_drop]; omega))
  have go : ∀ {mid : List (List Str)} {m : Nat}, Small mid → n + mid.length + (rs.length - m) ≤ 60 → oAddB (.lst (rowsD (rs.take n))) (.lst (rowsD mid)) S' fun x S1 => oSlB (stD rs) (some (m : Int)) none S1 fun y S2 => oAddB x y S2 fun d S1 => ∃ S2, Sub S2 S1 ∧ (Q d S2 ∨ frz1 d S2 Q ∨ frzD d S2 Q) := fun {mid m} h hz => by
    refine add_l rfl rfl (by rw [List.length_map, List.length_map, sizeLine_eq]; omega) (.inl (sr ?_))
    rw [rowsD_app]
    refine add_l rfl rfl (by rw [List.length_map, List.length_map, List.length_append, List.length_drop, sizeLine_eq]; omega) (.inl (ret_ ?_))
    rw [rowsD_app]
    exact fin h hz
  refine ⟨fun hw => sl (sr (x := n + 1) (add_l rfl rfl (by rw [List.length_map, List.length_map, sizeLine_eq]; omega) (.inl (ret_ ?_)))), fun hw => ?_⟩
  · rw [rowsD_app]
    exact q _ ((hs.take n).app (hs.drop (n + 1)) (by omega))
  refine ⟨fun ρ' S2 => ρ' = [some (.int way), some (.int place), some (stD rs), some (.int n), some (.lst (sL row)), some (.int k)] ∧ S2 = S', ?_, ?_⟩
  · simp only [s_seq, s_set, s_next, s_cont, s_break, s_expr, s_retN, s_var, s_c, s_op, s_nil, s_cons, s_cb, s_call, s_tup, s_lst, s_sub, s_bm, s_aug, s_asg, s_sl, s_nopart, s_part, s_ret, s_ifs, s_if, s_test, s_not, s_and, s_or, s_andV, s_orV, s_notV, s_oI, s_add, s_mul, s_cmp, s_cmps, s_eq, s_eqs, s_eqb, s_lc, s_for, s_ex, s_pn, s_pc, s_disp, s_r1, s_r2, s_e, s_z, wipeD, s_setdN, s_tcount, s_xget, s_get, s_fld, s_meth, s_make, s_raise, s_raiseI, s_dget2, List.getElem?_cons_zero, List.getElem?_cons_succ, List.set_cons_zero, List.set_cons_succ, Option.some.injEq, exists_eq_left', exists_eq_left, startD, List.map_cons, List.map_nil, List.length_cons, List.length_nil, List.replicate_succ, List.replicate_zero, List.append_nil, List.cons_append, List.nil_append, D.bl.injEq, D.int.injEq, D.str.injEq, D.tupz.injEq, D.ref.injEq, decide_eq_true_eq, decide_eq_false_iff_not, Bool.bne_false, Bool.bne_true, Nat.reduceAdd, Nat.reduceSub, Nat.reduceLeDiff, reduceCtorEq, true_and, and_true, false_implies, true_implies, imp_self, Bool.false_eq_true, forall_const]
    refine ⟨fun hw => .inl (len_l rfl ?_), fun hw => trivial⟩
    simp only [s_seq, s_set, s_next, s_cont, s_break, s_expr, s_retN, s_var, s_c, s_op, s_nil, s_cons, s_cb, s_call, s_tup, s_lst, s_sub, s_bm, s_aug, s_asg, s_sl, s_nopart, s_part, s_ret, s_ifs, s_if, s_test, s_not, s_and, s_or, s_andV, s_orV, s_notV, s_oI, s_add, s_mul, s_cmp, s_cmps, s_eq, s_eqs, s_eqb, s_lc, s_for, s_ex, s_pn, s_pc, s_disp, s_r1, s_r2, s_e, s_z, wipeD, s_setdN, s_tcount, s_xget, s_get, s_fld, s_meth, s_make, s_raise, s_raiseI, s_dget2, List.getElem?_cons_zero, List.getElem?_cons_succ, List.set_cons_zero, List.set_cons_succ, Option.some.injEq, exists_eq_left', exists_eq_left, startD, List.map_cons, List.map_nil, List.length_cons, List.length_nil, List.replicate_succ, List.replicate_zero, List.append_nil, List.cons_append, List.nil_append, D.bl.injEq, D.int.injEq, D.str.injEq, D.tupz.injEq, D.ref.injEq, decide_eq_true_eq, decide_eq_false_iff_not, Bool.bne_false, Bool.bne_true, Nat.reduceAdd, Nat.reduceSub, Nat.reduceLeDiff, reduceCtorEq, true_and, and_true, false_implies, true_implies, imp_self, Bool.false_eq_true, forall_const]
    rw [List.length_map]
    refine ⟨fun hlt' => sl (rl ⟨by decide, .inl ?_⟩), fun _ => trivial⟩
    refine add_l rfl rfl (by rw [List.length_map, sizeLine_eq]; show _ + 1 ≤ _; omega) (.inl (rr ?_))
    refine add_l rfl rfl (by rw [List.length_append, List.length_map, List.length_map, sizeLine_eq]; show _ + 1 + _ ≤ _; omega) (.inl ⟨by decide, .inl ?_⟩)
    have e3 : sL (row.take k) ++ [D.str "x"] ++ sL (row.drop k) = sL (row.take k ++ (["x"] : List Str) ++ row.drop k) := by rw [← sL_app, ← sL_app]; rfl
    rw [e3]
    refine go (m := n + 1) (mid := [row.take k ++ (["x"] : List Str) ++ row.drop k]) (.one (by rw [List.length_append, List.length_append]; show _ + 1 + _ ≤ _; omega) fun w hw => ?_) (by show n + 1 + _ ≤ _; omega)
    rcases List.mem_append.mp hw with hw | hw
    · rcases List.mem_append.mp hw with hw | hw
      · exact okt _ w hw
      · rw [List.mem_singleton.mp hw]; decide +kernel
    · exact okd _ w hw
  rintro ρ' S1' ⟨rfl, rfl⟩
  refine ⟨fun ρ' S2 => ρ' = [some (.int way), some (.int place), some (stD rs), some (.int n), some (.lst (sL row)), some (.int k)] ∧ S2 = S1', ?_, ?_⟩
  · simp only [s_seq, s_set, s_next, s_cont, s_break, s_expr, s_retN, s_var, s_c, s_op, s_nil, s_cons, s_cb, s_call, s_tup, s_lst, s_sub, s_bm, s_aug, s_asg, s_sl, s_nopart, s_part, s_ret, s_ifs, s_if, s_test, s_not, s_and, s_or, s_andV, s_orV, s_notV, s_oI, s_add, s_mul, s_cmp, s_cmps, s_eq, s_eqs, s_eqb, s_lc, s_for, s_ex, s_pn, s_pc, s_disp, s_r1, s_r2, s_e, s_z, wipeD, s_setdN, s_tcount, s_xget, s_get, s_fld, s_meth, s_make, s_raise, s_raiseI, s_dget2, List.getElem?_cons_zero, List.getElem?_cons_succ, List.set_cons_zero, List.set_cons_succ, Option.some.injEq, exists_eq_left', exists_eq_left, startD, List.map_cons, List.map_nil, List.length_cons, List.length_nil, List.replicate_succ, List.replicate_zero, List.append_nil, List.cons_append, List.nil_append, D.bl.injEq, D.int.injEq, D.str.injEq, D.tupz.injEq, D.ref.injEq, decide_eq_true_eq, decide_eq_false_iff_not, Bool.bne_false, Bool.bne_true, Nat.reduceAdd, Nat.reduceSub, Nat.reduceLeDiff, reduceCtorEq, true_and, and_true, false_implies, true_implies, imp_self, Bool.false_eq_true, forall_const]
    refine ⟨fun hw => .inl (len_l rfl ?_), fun hw => trivial⟩
    simp only [s_seq, s_set, s_next, s_cont, s_break, s_expr, s_retN, s_var, s_c, s_op, s_nil, s_cons, s_cb, s_call, s_tup, s_lst, s_sub, s_bm, s_aug, s_asg, s_sl, s_nopart, s_part, s_ret, s_ifs, s_if, s_test, s_not, s_and, s_or, s_andV, s_orV, s_notV, s_oI, s_add, s_mul, s_cmp, s_cmps, s_eq, s_eqs, s_eqb, s_lc, s_for, s_ex, s_pn, s_pc, s_disp, s_r1, s_r2, s_e, s_z, wipeD, s_setdN, s_tcount, s_xget, s_get, s_fld, s_meth, s_make, s_raise, s_raiseI, s_dget2, List.getElem?_cons_zero, List.getElem?_cons_succ, List.set_cons_zero, List.set_cons_succ, Option.some.injEq, exists_eq_left', exists_eq_left, startD, List.map_cons, List.map_nil, List.length_cons, List.length_nil, List.replicate_succ, List.replicate_zero, List.append_nil, List.cons_append, List.nil_append, D.bl.injEq, D.int.injEq, D.str.injEq, D.tupz.injEq, D.ref.injEq, decide_eq_true_eq, decide_eq_false_iff_not, Bool.bne_false, Bool.bne_true, Nat.reduceAdd, Nat.reduceSub, Nat.reduceLeDiff, reduceCtorEq, true_and, and_true, false_implies, true_implies, imp_self, Bool.false_eq_true, forall_const]
    rw [List.length_map]
    refine ⟨fun hlt' => ?_, fun _ => trivial⟩
    obtain ⟨nx, hnx⟩ : ∃ nx, rs[n + 1]? = some nx := ⟨_, List.getElem?_eq_getElem (by omega)⟩
    have hnm : nx ∈ rs := List.mem_of_getElem? hnx
    refine ix_l rfl (atI_nat (j := n + 1) (v := .lst (sL nx)) (by rw [List.getElem?_map, hnx]; rfl)) (.inl (len_l rfl ?_))
    simp only [s_seq, s_set, s_next, s_cont, s_break, s_expr, s_retN, s_var, s_c, s_op, s_nil, s_cons, s_cb, s_call, s_tup, s_lst, s_sub, s_bm, s_aug, s_asg, s_sl, s_nopart, s_part, s_ret, s_ifs, s_if, s_test, s_not, s_and, s_or, s_andV, s_orV, s_notV, s_oI, s_add, s_mul, s_cmp, s_cmps, s_eq, s_eqs, s_eqb, s_lc, s_for, s_ex, s_pn, s_pc, s_disp, s_r1, s_r2, s_e, s_z, wipeD, s_setdN, s_tcount, s_xget, s_get, s_fld, s_meth, s_make, s_raise, s_raiseI, s_dget2, List.getElem?_cons_zero, List.getElem?_cons_succ, List.set_cons_zero, List.set_cons_succ, Option.some.injEq, exists_eq_left', exists_eq_left, startD, List.map_cons, List.map_nil, List.length_cons, List.length_nil, List.replicate_succ, List.replicate_zero, List.append_nil, List.cons_append, List.nil_append, D.bl.injEq, D.int.injEq, D.str.injEq, D.tupz.injEq, D.ref.injEq, decide_eq_true_eq, decide_eq_false_iff_not, Bool.bne_false, Bool.bne_true, Nat.reduceAdd, Nat.reduceSub, Nat.reduceLeDiff, reduceCtorEq, true_and, and_true, false_implies, true_implies, imp_self, Bool.false_eq_true, forall_const]
    rw [List.length_map]
    refine ⟨fun hn30 => sl ?_, fun _ => trivial⟩
    refine .inl (len_l rfl ?_)
    simp only [s_seq, s_set, s_next, s_cont, s_break, s_expr, s_retN, s_var, s_c, s_op, s_nil, s_cons, s_cb, s_call, s_tup, s_lst, s_sub, s_bm, s_aug, s_asg, s_sl, s_nopart, s_part, s_ret, s_ifs, s_if, s_test, s_not, s_and, s_or, s_andV, s_orV, s_notV, s_oI, s_add, s_mul, s_cmp, s_cmps, s_eq, s_eqs, s_eqb, s_lc, s_for, s_ex, s_pn, s_pc, s_disp, s_r1, s_r2, s_e, s_z, wipeD, s_setdN, s_tcount, s_xget, s_get, s_fld, s_meth, s_make, s_raise, s_raiseI, s_dget2, List.getElem?_cons_zero, List.getElem?_cons_succ, List.set_cons_zero, List.set_cons_succ, Option.some.injEq, exists_eq_left', exists_eq_left, startD, List.map_cons, List.map_nil, List.length_cons, List.length_nil, List.replicate_succ, List.replicate_zero, List.append_nil, List.cons_append, List.nil_append, D.bl.injEq, D.int.injEq, D.str.injEq, D.tupz.injEq, D.ref.injEq, decide_eq_true_eq, decide_eq_false_iff_not, Bool.bne_false, Bool.bne_true, Nat.reduceAdd, Nat.reduceSub, Nat.reduceLeDiff, reduceCtorEq, true_and, and_true, false_implies, true_implies, imp_self, Bool.false_eq_true, forall_const]
    rw [List.length_map]
    obtain ⟨a, b, ea, eb, ha, hao, hb, hbo⟩ : ∃ a b : List Str, cutD (sL row) none (some ((row.length : Int) - 1)) = sL a ∧ cutD (sL row) (some ((row.length : Int) - 1)) none = sL b ∧ a.length ≤ 30 ∧ (∀ w ∈ a, sOk w) ∧ b.length ≤ 1 ∧ ∀ w ∈ b, sOk w := by
      by_cases e : row = []
      · subst e
        exact ⟨[], [], cutD_nil, cutD_nil, by decide, (fun w hw => nomatch hw), by decide, (fun w hw => nomatch hw)⟩
      · have hp : 0 < row.length := List.length_pos_iff.mpr e
        have ec : (row.length : Int) - 1 = ((row.length - 1 : Nat) : Int) := by omega
        rw [ec]
        exact ⟨row.take (row.length - 1), row.drop (row.length - 1), sL_take, sL_drop, by rw [List.length_take]; omega, okt _, by rw [List.length_drop]; omega, okd _⟩
    have hnl := hs.2.1 nx hnm
    refine slB rfl (.inl ?_)
    rw [ea]
    refine .inl (len_l rfl ?_)
    simp only [s_seq, s_set, s_next, s_cont, s_break, s_expr, s_retN, s_var, s_c, s_op, s_nil, s_cons, s_cb, s_call, s_tup, s_lst, s_sub, s_bm, s_aug, s_asg, s_sl, s_nopart, s_part, s_ret, s_ifs, s_if, s_test, s_not, s_and, s_or, s_andV, s_orV, s_notV, s_oI, s_add, s_mul, s_cmp, s_cmps, s_eq, s_eqs, s_eqb, s_lc, s_for, s_ex, s_pn, s_pc, s_disp, s_r1, s_r2, s_e, s_z, wipeD, s_setdN, s_tcount, s_xget, s_get, s_fld, s_meth, s_make, s_raise, s_raiseI, s_dget2, List.getElem?_cons_zero, List.getElem?_cons_succ, List.set_cons_zero, List.set_cons_succ, Option.some.injEq, exists_eq_left', exists_eq_left, startD, List.map_cons, List.map_nil, List.length_cons, List.length_nil, List.replicate_succ, List.replicate_zero, List.append_nil, List.cons_append, List.nil_append, D.bl.injEq, D.int.injEq, D.str.injEq, D.tupz.injEq, D.ref.injEq, decide_eq_true_eq, decide_eq_false_iff_not, Bool.bne_false, Bool.bne_true, Nat.reduceAdd, Nat.reduceSub, Nat.reduceLeDiff, reduceCtorEq, true_and, and_true, false_implies, true_implies, imp_self, Bool.false_eq_true, forall_const]
    rw [List.length_map]
    refine slB rfl (.inl ?_)
    rw [eb]
    refine ix_l rfl (atI_nat (j := n + 1) (v := .lst (sL nx)) (by rw [List.getElem?_map, hnx]; rfl)) ?_
    refine add_l rfl rfl (by rw [List.length_map, List.length_map, sizeLine_eq]; omega) (.inl ⟨by decide, .inl ?_⟩)
    rw [sL_app]
    refine go (m := n + 2) (mid := [a, b ++ nx]) ⟨by show 2 ≤ 60; decide, fun r hr => ?_, fun r hr w hw => ?_⟩ (by show n + 2 + _ ≤ _; omega)
    · rcases List.mem_cons.mp hr with e | hr
      · rw [e]; exact ha
      · rw [List.mem_singleton.mp hr, List.length_append]; omega
    · rcases List.mem_cons.mp hr with e | hr
      · rw [e] at hw; exact hao w hw
      · rw [List.mem_singleton.mp hr] at hw
        rcases List.mem_append.mp hw with hw | hw
        · exact hbo w hw
        · exact hs.2.2 nx hnm w hw
  rintro ρ' S3 ⟨rfl, rfl⟩
  simp only [s_seq, s_set, s_next, s_cont, s_break, s_expr, s_retN, s_var, s_c, s_op, s_nil, s_cons, s_cb, s_call, s_tup, s_lst, s_sub, s_bm, s_aug, s_asg, s_sl, s_nopart, s_part, s_ret, s_ifs, s_if, s_test, s_not, s_and, s_or, s_andV, s_orV, s_notV, s_oI, s_add, s_mul, s_cmp, s_cmps, s_eq, s_eqs, s_eqb, s_lc, s_for, s_ex, s_pn, s_pc, s_disp, s_r1, s_r2, s_e, s_z, wipeD, s_setdN, s_tcount, s_xget, s_get, s_fld, s_meth, s_make, s_raise, s_raiseI, s_dget2, List.getElem?_cons_zero, List.getElem?_cons_succ, List.set_cons_zero, List.set_cons_succ, Option.some.injEq, exists_eq_left', exists_eq_left, startD, List.map_cons, List.map_nil, List.length_cons, List.length_nil, List.replicate_succ, List.replicate_zero, List.append_nil, List.cons_append, List.nil_append, D.bl.injEq, D.int.injEq, D.str.injEq, D.tupz.injEq, D.ref.injEq, decide_eq_true_eq, decide_eq_false_iff_not, Bool.bne_false, Bool.bne_true, Nat.reduceAdd, Nat.reduceSub, Nat.reduceLeDiff, reduceCtorEq, true_and, and_true, false_implies, true_implies, imp_self, Bool.false_eq_true, forall_const]
  refine sl ?_
  refine rl ?_
  refine rr (x := k + 1) ?_
  refine add_l rfl rfl (by rw [List.length_map, List.length_map, sizeLine_eq]; omega) (.inl ⟨by decide, .inl ?_⟩)
  rw [sL_app]
  refine go (m := n + 1) (mid := [row.take k ++ row.drop (k + 1)]) (.one (by rw [List.length_append]; omega) fun w hw => ?_) (by show n + 1 + _ ≤ _; omega)
  rcases List.mem_append.mp hw with hw | hw
  · exact okt _ w hw
  · exact okd _ w hw
end
end N42
set_option Elab.async false
set_option linter.all false
set_option maxRecDepth 100000
set_option maxHeartbeats 4000000
namespace N42
open PySem PySem.Spec PyProof.Rows L2 KR
section
variable {K : Kx} {S S' : Store} {Q : VQ} {E : EQ} {ds : List D} {a : Addr}
theorem asX_L {S : Store} {d : D} {xs : List D} (h : asX S d = some xs) : asL S d = some xs := by
  cases d with
  | lst ys => exact h
  | ref b => exact h
  | _ => cases h
theorem asX_new {S : Store} {b : Addr} {us : List V} {x : D} {xs : List D} (h : asX S x = some xs) (hb : S b = none) : asX (KR.hd S b us) x = some xs := by
  cases x with
  | lst ys => exact h
  | ref e =>
    have ne : e ≠ b := fun q => by
      subst q
      simp [asX, hb] at h
    have q : KR.hd S b us e = S e := sup_ne ne
    simp only [asX, q] at h ⊢
    exact h
  | _ => cases h
theorem LX.ll {d : D} {rs : List (List D)} (h : LX S d rs) : LL S d rs := by
  obtain ⟨xs, h1, h2⟩ := h
  exact ⟨xs, asX_L h1, Paired.mono (fun _ _ h => asX_L h) h2⟩
theorem lx_mem {ds : List D} {rs : List (List D)} {x : D} (h : Paired (fun x r => asX S x = some r) ds rs) (hx : x ∈ ds) : ∃ r, asX S x = some r := by
  obtain ⟨i, hi, e⟩ := List.getElem_of_mem hx
  obtain ⟨r, _, hr⟩ := L2.paired_get h (List.getElem?_eq_getElem hi)
  exact ⟨r, by rw [← e]; exact hr⟩
theorem iL_tree {ns : List Nat} : isT (.lst (iL ns)) = true ∧ dpD (.lst (iL ns)) ≤ 60 := by
  constructor
  · unfold isT
    refine isTs_all fun d hd => ?_
    obtain ⟨n, _, rfl⟩ := List.mem_map.mp hd
    unfold isT; rfl
  · unfold dpD
    have : dpDs (iL ns) ≤ 0 := dpDs_le fun d hd => by
      obtain ⟨n, _, rfl⟩ := List.mem_map.mp hd
      unfold dpD; exact Nat.le_refl _
    omega
theorem p_law_is_form (c : SaysB fa fn K.K) (h : A_law_is_form K ds S Q E) : w_law_is_form K (fun c p _ S' => E c p S') { nx := fun _ S' => Q .non S', rt := Q } (startD ["_law_thing", "_law_shape_here", "_law_many", "_law_item", "_law_row"] ds) S := by
  obtain ⟨d, rs, rfl, hx, hz, _, hn, q⟩ := h
  obtain ⟨xs, h1, h2⟩ := id hx
  unfold w_law_is_form
  simp only [s_seq, s_set, s_next, s_cont, s_break, s_expr, s_retN, s_var, s_c, s_op, s_nil, s_cons, s_cb, s_call, s_tup, s_lst, s_sub, s_bm, s_aug, s_asg, s_sl, s_nopart, s_part, s_ret, s_ifs, s_if, s_test, s_not, s_and, s_or, s_andV, s_orV, s_notV, s_oI, s_add, s_mul, s_cmp, s_cmps, s_eq, s_eqs, s_eqb, s_lc, s_for, s_ex, s_pn, s_pc, s_disp, s_r1, s_r2, s_e, s_z, wipeD, s_setdN, s_tcount, s_xget, s_get, s_fld, s_meth, s_make, s_raise, s_raiseI, s_dget2, List.getElem?_cons_zero, List.getElem?_cons_succ, List.set_cons_zero, List.set_cons_succ, Option.some.injEq, exists_eq_left', exists_eq_left, startD, List.map_cons, List.map_nil, List.length_cons, List.length_nil, List.replicate_succ, List.replicate_zero, List.append_nil, List.cons_append, List.nil_append, D.bl.injEq, D.int.injEq, D.str.injEq, D.tupz.injEq, D.ref.injEq, decide_eq_true_eq, decide_eq_false_iff_not, Bool.bne_false, Bool.bne_true, Nat.reduceAdd, Nat.reduceSub, Nat.reduceLeDiff, reduceCtorEq, true_and, and_true, false_implies, true_implies, imp_self, Bool.false_eq_true, forall_const]
  refine isi rfl (ty_lst h1) (k_list_list c) ⟨true, rfl, ⟨fun h => (nomatch h), fun _ => ⟨false, wi_l ?_⟩⟩⟩
  simp only [s_seq, s_set, s_next, s_cont, s_break, s_expr, s_retN, s_var, s_c, s_op, s_nil, s_cons, s_cb, s_call, s_tup, s_lst, s_sub, s_bm, s_aug, s_asg, s_sl, s_nopart, s_part, s_ret, s_ifs, s_if, s_test, s_not, s_and, s_or, s_andV, s_orV, s_notV, s_oI, s_add, s_mul, s_cmp, s_cmps, s_eq, s_eqs, s_eqb, s_lc, s_for, s_ex, s_pn, s_pc, s_disp, s_r1, s_r2, s_e, s_z, wipeD, s_setdN, s_tcount, s_xget, s_get, s_fld, s_meth, s_make, s_raise, s_raiseI, s_dget2, List.getElem?_cons_zero, List.getElem?_cons_succ, List.set_cons_zero, List.set_cons_succ, Option.some.injEq, exists_eq_left', exists_eq_left, startD, List.map_cons, List.map_nil, List.length_cons, List.length_nil, List.replicate_succ, List.replicate_zero, List.append_nil, List.cons_append, List.nil_append, D.bl.injEq, D.int.injEq, D.str.injEq, D.tupz.injEq, D.ref.injEq, decide_eq_true_eq, decide_eq_false_iff_not, Bool.bne_false, Bool.bne_true, Nat.reduceAdd, Nat.reduceSub, Nat.reduceLeDiff, reduceCtorEq, true_and, and_true, false_implies, true_implies, imp_self, Bool.false_eq_true, forall_const]
  refine ⟨xs, asX_L h1, fun hz1 => ?_⟩
  refine lc_filter (fun _ => false) id (fun b us hb => kp_new (asX_L h1) hb) (fun x hx' b us hb => ⟨_, rfl, fun T hT => ?_, fun h => (nomatch h)⟩) hz1 ?_
  · simp only [s_seq, s_set, s_next, s_cont, s_break, s_expr, s_retN, s_var, s_c, s_op, s_nil, s_cons, s_cb, s_call, s_tup, s_lst, s_sub, s_bm, s_aug, s_asg, s_sl, s_nopart, s_part, s_ret, s_ifs, s_if, s_test, s_not, s_and, s_or, s_andV, s_orV, s_notV, s_oI, s_add, s_mul, s_cmp, s_cmps, s_eq, s_eqs, s_eqb, s_lc, s_for, s_ex, s_pn, s_pc, s_disp, s_r1, s_r2, s_e, s_z, wipeD, s_setdN, s_tcount, s_xget, s_get, s_fld, s_meth, s_make, s_raise, s_raiseI, s_dget2, List.getElem?_cons_zero, List.getElem?_cons_succ, List.set_cons_zero, List.set_cons_succ, Option.some.injEq, exists_eq_left', exists_eq_left, startD, List.map_cons, List.map_nil, List.length_cons, List.length_nil, List.replicate_succ, List.replicate_zero, List.append_nil, List.cons_append, List.nil_append, D.bl.injEq, D.int.injEq, D.str.injEq, D.tupz.injEq, D.ref.injEq, decide_eq_true_eq, decide_eq_false_iff_not, Bool.bne_false, Bool.bne_true, Nat.reduceAdd, Nat.reduceSub, Nat.reduceLeDiff, reduceCtorEq, true_and, and_true, false_implies, true_implies, imp_self, Bool.false_eq_true, forall_const]
    obtain ⟨r, hr⟩ := lx_mem h2 hx'
    exact isi rfl (ty_lst (asX_new hr hb)) (k_list_list c) ⟨true, rfl, hT⟩
  have ef : (xs.filter fun _ => false) = [] := by simp
  rw [ef]
  refine ⟨by decide, .inl ?_⟩
  refine eq_nil (xs := []) (by unfold isTs; rfl) (by unfold dpDs; decide) ?_
  refine ⟨false, rfl, fun h => (nomatch h), fun _ => ?_⟩
  refine ⟨false, wi_l ?_⟩
  simp only [s_seq, s_set, s_next, s_cont, s_break, s_expr, s_retN, s_var, s_c, s_op, s_nil, s_cons, s_cb, s_call, s_tup, s_lst, s_sub, s_bm, s_aug, s_asg, s_sl, s_nopart, s_part, s_ret, s_ifs, s_if, s_test, s_not, s_and, s_or, s_andV, s_orV, s_notV, s_oI, s_add, s_mul, s_cmp, s_cmps, s_eq, s_eqs, s_eqb, s_lc, s_for, s_ex, s_pn, s_pc, s_disp, s_r1, s_r2, s_e, s_z, wipeD, s_setdN, s_tcount, s_xget, s_get, s_fld, s_meth, s_make, s_raise, s_raiseI, s_dget2, List.getElem?_cons_zero, List.getElem?_cons_succ, List.set_cons_zero, List.set_cons_succ, Option.some.injEq, exists_eq_left', exists_eq_left, startD, List.map_cons, List.map_nil, List.length_cons, List.length_nil, List.replicate_succ, List.replicate_zero, List.append_nil, List.cons_append, List.nil_append, D.bl.injEq, D.int.injEq, D.str.injEq, D.tupz.injEq, D.ref.injEq, decide_eq_true_eq, decide_eq_false_iff_not, Bool.bne_false, Bool.bne_true, Nat.reduceAdd, Nat.reduceSub, Nat.reduceLeDiff, reduceCtorEq, true_and, and_true, false_implies, true_implies, imp_self, Bool.false_eq_true, forall_const]
  refine ⟨xs, asX_L h1, fun hz2 => ?_⟩
  refine lc_map (fun x => .int (((asL S x).getD []).length : Nat)) (fun b us hb => kp_new (asX_L h1) hb) (fun x hx' b us hb => ⟨_, rfl, fun Q' hQ => ?_⟩) hz2 ?_
  · simp only [s_seq, s_set, s_next, s_cont, s_break, s_expr, s_retN, s_var, s_c, s_op, s_nil, s_cons, s_cb, s_call, s_tup, s_lst, s_sub, s_bm, s_aug, s_asg, s_sl, s_nopart, s_part, s_ret, s_ifs, s_if, s_test, s_not, s_and, s_or, s_andV, s_orV, s_notV, s_oI, s_add, s_mul, s_cmp, s_cmps, s_eq, s_eqs, s_eqb, s_lc, s_for, s_ex, s_pn, s_pc, s_disp, s_r1, s_r2, s_e, s_z, wipeD, s_setdN, s_tcount, s_xget, s_get, s_fld, s_meth, s_make, s_raise, s_raiseI, s_dget2, List.getElem?_cons_zero, List.getElem?_cons_succ, List.set_cons_zero, List.set_cons_succ, Option.some.injEq, exists_eq_left', exists_eq_left, startD, List.map_cons, List.map_nil, List.length_cons, List.length_nil, List.replicate_succ, List.replicate_zero, List.append_nil, List.cons_append, List.nil_append, D.bl.injEq, D.int.injEq, D.str.injEq, D.tupz.injEq, D.ref.injEq, decide_eq_true_eq, decide_eq_false_iff_not, Bool.bne_false, Bool.bne_true, Nat.reduceAdd, Nat.reduceSub, Nat.reduceLeDiff, reduceCtorEq, true_and, and_true, false_implies, true_implies, imp_self, Bool.false_eq_true, forall_const]
    obtain ⟨r, hr⟩ := lx_mem h2 hx'
    refine .inl (len_l (asX_L (asX_new hr hb)) ?_)
    rw [asX_L hr] at hQ
    exact hQ
  have e : xs.map (fun x => D.int (((asL S x).getD []).length : Nat)) = iL (shp rs) := by
    obtain ⟨xs', q1, q2⟩ := hx.ll
    rw [asX_L h1] at q1
    cases q1
    rw [ll_map (fun r => D.int (r.length : Nat)) q2]
    unfold iL shp
    rw [List.map_map]
    rfl
  rw [e]
  dsimp only [newL]
  refine eq_tree rfl iL_tree.1 iL_tree.2 ?_
  refine ⟨false, rfl, fun h => (nomatch h), fun _ => ?_⟩
  refine wi_l ?_
  simp only [s_seq, s_set, s_next, s_cont, s_break, s_expr, s_retN, s_var, s_c, s_op, s_nil, s_cons, s_cb, s_call, s_tup, s_lst, s_sub, s_bm, s_aug, s_asg, s_sl, s_nopart, s_part, s_ret, s_ifs, s_if, s_test, s_not, s_and, s_or, s_andV, s_orV, s_notV, s_oI, s_add, s_mul, s_cmp, s_cmps, s_eq, s_eqs, s_eqb, s_lc, s_for, s_ex, s_pn, s_pc, s_disp, s_r1, s_r2, s_e, s_z, wipeD, s_setdN, s_tcount, s_xget, s_get, s_fld, s_meth, s_make, s_raise, s_raiseI, s_dget2, List.getElem?_cons_zero, List.getElem?_cons_succ, List.set_cons_zero, List.set_cons_succ, Option.some.injEq, exists_eq_left', exists_eq_left, startD, List.map_cons, List.map_nil, List.length_cons, List.length_nil, List.replicate_succ, List.replicate_zero, List.append_nil, List.cons_append, List.nil_append, D.bl.injEq, D.int.injEq, D.str.injEq, D.tupz.injEq, D.ref.injEq, decide_eq_true_eq, decide_eq_false_iff_not, Bool.bne_false, Bool.bne_true, Nat.reduceAdd, Nat.reduceSub, Nat.reduceLeDiff, reduceCtorEq, true_and, and_true, false_implies, true_implies, imp_self, Bool.false_eq_true, forall_const]
  refine ⟨d, rs, rfl, hx.ll, hz, _, rfl, fun _ => ?_⟩
  generalize hfl : rs.flatten = items at *
  refine ⟨fun i ρ S' => S' = S ∧ ∃ many y, ρ = [some d, some (.lst (iL (shp rs))), some (.int many), y, none] ∧ Nmb many (items.drop i), ⟨rfl, 0, none, rfl, hn⟩, fun i ρ S' _ ⟨e, _⟩ => rfl, fun i x ρ S' hxi ⟨e, many, y, er, hN⟩ => ?_, fun ρ S' ⟨e, many, y, er, hN⟩ => ?_⟩
  · subst e er
    have hi := (List.getElem?_eq_some_iff.mp hxi).1
    have ed : items.drop i = x :: items.drop (i + 1) := by
      rw [List.drop_eq_getElem_cons hi]
      have := (List.getElem?_eq_some_iff.mp hxi).2
      rw [this]
    rw [ed] at hN
    refine ⟨_, rfl, ?_⟩
    simp only [s_seq, s_set, s_next, s_cont, s_break, s_expr, s_retN, s_var, s_c, s_op, s_nil, s_cons, s_cb, s_call, s_tup, s_lst, s_sub, s_bm, s_aug, s_asg, s_sl, s_nopart, s_part, s_ret, s_ifs, s_if, s_test, s_not, s_and, s_or, s_andV, s_orV, s_notV, s_oI, s_add, s_mul, s_cmp, s_cmps, s_eq, s_eqs, s_eqb, s_lc, s_for, s_ex, s_pn, s_pc, s_disp, s_r1, s_r2, s_e, s_z, wipeD, s_setdN, s_tcount, s_xget, s_get, s_fld, s_meth, s_make, s_raise, s_raiseI, s_dget2, List.getElem?_cons_zero, List.getElem?_cons_succ, List.set_cons_zero, List.set_cons_succ, Option.some.injEq, exists_eq_left', exists_eq_left, startD, List.map_cons, List.map_nil, List.length_cons, List.length_nil, List.replicate_succ, List.replicate_zero, List.append_nil, List.cons_append, List.nil_append, D.bl.injEq, D.int.injEq, D.str.injEq, D.tupz.injEq, D.ref.injEq, decide_eq_true_eq, decide_eq_false_iff_not, Bool.bne_false, Bool.bne_true, Nat.reduceAdd, Nat.reduceSub, Nat.reduceLeDiff, reduceCtorEq, true_and, and_true, false_implies, true_implies, imp_self, Bool.false_eq_true, forall_const]
    cases x with
    | int j =>
      obtain ⟨h0, h1', h2'⟩ := hN
      refine ⟨_, rfl, rfl, ⟨true, rfl, ⟨fun _ => ?_, fun h => (nomatch h)⟩⟩⟩
      simp only [s_seq, s_set, s_next, s_cont, s_break, s_expr, s_retN, s_var, s_c, s_op, s_nil, s_cons, s_cb, s_call, s_tup, s_lst, s_sub, s_bm, s_aug, s_asg, s_sl, s_nopart, s_part, s_ret, s_ifs, s_if, s_test, s_not, s_and, s_or, s_andV, s_orV, s_notV, s_oI, s_add, s_mul, s_cmp, s_cmps, s_eq, s_eqs, s_eqb, s_lc, s_for, s_ex, s_pn, s_pc, s_disp, s_r1, s_r2, s_e, s_z, wipeD, s_setdN, s_tcount, s_xget, s_get, s_fld, s_meth, s_make, s_raise, s_raiseI, s_dget2, List.getElem?_cons_zero, List.getElem?_cons_succ, List.set_cons_zero, List.set_cons_succ, Option.some.injEq, exists_eq_left', exists_eq_left, startD, List.map_cons, List.map_nil, List.length_cons, List.length_nil, List.replicate_succ, List.replicate_zero, List.append_nil, List.cons_append, List.nil_append, D.bl.injEq, D.int.injEq, D.str.injEq, D.tupz.injEq, D.ref.injEq, decide_eq_true_eq, decide_eq_false_iff_not, Bool.bne_false, Bool.bne_true, Nat.reduceAdd, Nat.reduceSub, Nat.reduceLeDiff, reduceCtorEq, true_and, and_true, false_implies, true_implies, imp_self, Bool.false_eq_true, forall_const]
      refine ⟨fun h => by omega, fun _ => ⟨fun h => by omega, fun _ => ?_⟩⟩
      rw [s_max2]
      refine ⟨rfl, _, _, rfl, ?_⟩
      have e : (if j + 1 > many then j + 1 else many) = max many (j + 1) := by split <;> omega
      rw [e]
      exact h2'
    | str z =>
      refine ⟨_, rfl, rfl, ⟨false, rfl, ⟨fun h => (nomatch h), fun _ => ?_⟩⟩⟩
      exact isi rfl ty_str (k_str_str c) ⟨true, rfl, ⟨fun h => (nomatch h), fun _ => ⟨rfl, _, _, rfl, hN⟩⟩⟩
    | _ => exact hN.elim
  · subst e er
    simp only [s_seq, s_set, s_next, s_cont, s_break, s_expr, s_retN, s_var, s_c, s_op, s_nil, s_cons, s_cb, s_call, s_tup, s_lst, s_sub, s_bm, s_aug, s_asg, s_sl, s_nopart, s_part, s_ret, s_ifs, s_if, s_test, s_not, s_and, s_or, s_andV, s_orV, s_notV, s_oI, s_add, s_mul, s_cmp, s_cmps, s_eq, s_eqs, s_eqb, s_lc, s_for, s_ex, s_pn, s_pc, s_disp, s_r1, s_r2, s_e, s_z, wipeD, s_setdN, s_tcount, s_xget, s_get, s_fld, s_meth, s_make, s_raise, s_raiseI, s_dget2, List.getElem?_cons_zero, List.getElem?_cons_succ, List.set_cons_zero, List.set_cons_succ, Option.some.injEq, exists_eq_left', exists_eq_left, startD, List.map_cons, List.map_nil, List.length_cons, List.length_nil, List.replicate_succ, List.replicate_zero, List.append_nil, List.cons_append, List.nil_append, D.bl.injEq, D.int.injEq, D.str.injEq, D.tupz.injEq, D.ref.injEq, decide_eq_true_eq, decide_eq_false_iff_not, Bool.bne_false, Bool.bne_true, Nat.reduceAdd, Nat.reduceSub, Nat.reduceLeDiff, reduceCtorEq, true_and, and_true, false_implies, true_implies, imp_self, Bool.false_eq_true, forall_const]
    exact ret_ q
end
end N42
set_option Elab.async false
set_option linter.all false
set_option maxRecDepth 100000
set_option maxHeartbeats 4000000
namespace N42
open PySem PySem.Spec PyProof.Rows L2 KR
section
variable {K : Kx} {S S' : Store} {Q : VQ} {E : EQ} {ds : List D} {a : Addr}
theorem st_LL {s : List (List Str)} : LL S (stD s) (s.map sL) := ⟨rowsD s, rfl, paired_of (by rw [List.length_map, List.length_map]) fun i x r hx hr => by
  rw [List.getElem?_map] at hx hr
  obtain ⟨t, ht, rfl⟩ := Option.map_eq_some_iff.mp hx
  obtain ⟨t', ht', rfl⟩ := Option.map_eq_some_iff.mp hr
  rw [ht] at ht'
  cases ht'
  rfl⟩
theorem shp_sL {s : List (List Str)} : shp (s.map sL) = shp s := by
  unfold shp
  rw [List.map_map]
  refine List.map_congr_left fun r _ => ?_
  show (sL r).length = _
  rw [List.length_map]
theorem flat_sL {s : List (List Str)} : (s.map sL).flatten = sL s.flatten := by
  unfold sL
  rw [List.map_flatten]
theorem colOf_ok {ss : List (List (List Str))} {i n : Nat} (hs : ∀ s ∈ ss, Small s) (hf : ∀ s ∈ ss, s.flatten.length = n) (hi : i < n) : ∀ w ∈ colOf ss i, sOk w := fun w hw => by
  obtain ⟨s, hm, rfl⟩ := List.mem_map.mp hw
  have hl : i < s.flatten.length := by rw [hf s hm]; exact hi
  rw [List.getD, List.getElem?_eq_getElem hl, Option.getD_some]
  obtain ⟨r, hr, hw'⟩ := List.mem_flatten.mp (List.getElem_mem hl)
  exact (hs s hm).2.2 r hr _ hw'
theorem col_ne {s0 : List (List Str)} {sr : List (List (List Str))} {i : Nat} : sL (colOf (s0 :: sr) i) = .str ((colOf (s0 :: sr) i).headD (Str.ofString "")) :: (sr.map fun s => D.str (s.flatten.getD i (Str.ofString ""))) := by
  unfold colOf sL
  rw [List.map_cons, List.map_cons, List.map_map]
  rfl
theorem p_law_right (c : SaysB fa fn K.K) (h : A_law_right K ds S Q E) : w_law_right K (fun c p _ S' => E c p S') { nx := fun _ S' => Q .non S', rt := Q } (startD ["_law_found", "_law_given", "_law_items_here", "_law_rows", "_law_columns", "_law_p", "_law_same", "_law_q", "_law_stretch_here", "_law_alike", "_law_row"] ds) S := by
  obtain ⟨d, y, rs, ss, rfl, hy, hx, hz, hne, hl, hs, hR, q⟩ := h
  obtain ⟨s0, sr, rfl⟩ := List.exists_cons_of_ne_nil hne
  have hm0 := hs s0 List.mem_cons_self
  generalize hss : s0 :: sr = ss at *
  have e0 : ss.map stD = stD s0 :: sr.map stD := by rw [← hss]; rfl
  unfold w_law_right
  simp only [s_seq, s_set, s_next, s_cont, s_break, s_expr, s_retN, s_var, s_c, s_op, s_nil, s_cons, s_cb, s_call, s_tup, s_lst, s_sub, s_bm, s_aug, s_asg, s_sl, s_nopart, s_part, s_ret, s_ifs, s_if, s_test, s_not, s_and, s_or, s_andV, s_orV, s_notV, s_oI, s_add, s_mul, s_cmp, s_cmps, s_eq, s_eqs, s_eqb, s_lc, s_for, s_ex, s_pn, s_pc, s_disp, s_r1, s_r2, s_e, s_z, wipeD, s_setdN, s_tcount, s_xget, s_get, s_fld, s_meth, s_make, s_raise, s_raiseI, s_dget2, List.getElem?_cons_zero, List.getElem?_cons_succ, List.set_cons_zero, List.set_cons_succ, Option.some.injEq, exists_eq_left', exists_eq_left, startD, List.map_cons, List.map_nil, List.length_cons, List.length_nil, List.replicate_succ, List.replicate_zero, List.append_nil, List.cons_append, List.nil_append, D.bl.injEq, D.int.injEq, D.str.injEq, D.tupz.injEq, D.ref.injEq, decide_eq_true_eq, decide_eq_false_iff_not, Bool.bne_false, Bool.bne_true, Nat.reduceAdd, Nat.reduceSub, Nat.reduceLeDiff, reduceCtorEq, true_and, and_true, false_implies, true_implies, imp_self, Bool.false_eq_true, forall_const]
  refine ix_l (xs := ss.map stD) hy (by rw [e0]; exact at0) ⟨_, s0.map sL, rfl, st_LL, ?_⟩
  rw [shp_sL, hm0.2]
  refine ⟨d, rs, rfl, hx, hz, fun _ _ => trivial, hR.nmb, true, rfl, fun h => (nomatch h), fun _ => ?_⟩
  refine ⟨d, rs, rfl, hx.ll, hz, ?_⟩
  generalize hn : rs.flatten.length = n at *
  have hfl : ∀ s ∈ ss, s.flatten.length = n := fun s hm => by rw [← hn]; exact flat_shp (hs s hm).2
  have hsm : ∀ s ∈ ss, Small s := fun s hm => (hs s hm).1
  have hcl : (cols ss n).length = n := by unfold cols; rw [List.length_map, List.length_range]
  have hcg : ∀ i, i < n → (cols ss n)[i]? = some (colOf ss i) := fun i hi => by
    unfold cols colOf
    rw [List.getElem?_map, List.getElem?_range hi]
    rfl
  generalize hit : rs.flatten = items at *
  refine ⟨false, wi_l ?_⟩
  simp only [s_seq, s_set, s_next, s_cont, s_break, s_expr, s_retN, s_var, s_c, s_op, s_nil, s_cons, s_cb, s_call, s_tup, s_lst, s_sub, s_bm, s_aug, s_asg, s_sl, s_nopart, s_part, s_ret, s_ifs, s_if, s_test, s_not, s_and, s_or, s_andV, s_orV, s_notV, s_oI, s_add, s_mul, s_cmp, s_cmps, s_eq, s_eqs, s_eqb, s_lc, s_for, s_ex, s_pn, s_pc, s_disp, s_r1, s_r2, s_e, s_z, wipeD, s_setdN, s_tcount, s_xget, s_get, s_fld, s_meth, s_make, s_raise, s_raiseI, s_dget2, List.getElem?_cons_zero, List.getElem?_cons_succ, List.set_cons_zero, List.set_cons_succ, Option.some.injEq, exists_eq_left', exists_eq_left, startD, List.map_cons, List.map_nil, List.length_cons, List.length_nil, List.replicate_succ, List.replicate_zero, List.append_nil, List.cons_append, List.nil_append, D.bl.injEq, D.int.injEq, D.str.injEq, D.tupz.injEq, D.ref.injEq, decide_eq_true_eq, decide_eq_false_iff_not, Bool.bne_false, Bool.bne_true, Nat.reduceAdd, Nat.reduceSub, Nat.reduceLeDiff, reduceCtorEq, true_and, and_true, false_implies, true_implies, imp_self, Bool.false_eq_true, forall_const]
  refine ⟨_, hy, fun hz1 => ?_⟩
  refine lc_map (fun x => .lst (((asL S x).getD []).flatMap fun r => (asL S r).getD [])) (fun b us hb => kp_new hy hb) (fun x hx b us hb' => ⟨_, rfl, fun Q' hQ => ?_⟩) hz1 ?_
  · simp only [s_seq, s_set, s_next, s_cont, s_break, s_expr, s_retN, s_var, s_c, s_op, s_nil, s_cons, s_cb, s_call, s_tup, s_lst, s_sub, s_bm, s_aug, s_asg, s_sl, s_nopart, s_part, s_ret, s_ifs, s_if, s_test, s_not, s_and, s_or, s_andV, s_orV, s_notV, s_oI, s_add, s_mul, s_cmp, s_cmps, s_eq, s_eqs, s_eqb, s_lc, s_for, s_ex, s_pn, s_pc, s_disp, s_r1, s_r2, s_e, s_z, wipeD, s_setdN, s_tcount, s_xget, s_get, s_fld, s_meth, s_make, s_raise, s_raiseI, s_dget2, List.getElem?_cons_zero, List.getElem?_cons_succ, List.set_cons_zero, List.set_cons_succ, Option.some.injEq, exists_eq_left', exists_eq_left, startD, List.map_cons, List.map_nil, List.length_cons, List.length_nil, List.replicate_succ, List.replicate_zero, List.append_nil, List.cons_append, List.nil_append, D.bl.injEq, D.int.injEq, D.str.injEq, D.tupz.injEq, D.ref.injEq, decide_eq_true_eq, decide_eq_false_iff_not, Bool.bne_false, Bool.bne_true, Nat.reduceAdd, Nat.reduceSub, Nat.reduceLeDiff, reduceCtorEq, true_and, and_true, false_implies, true_implies, imp_self, Bool.false_eq_true, forall_const]
    obtain ⟨s, hm, rfl⟩ := List.mem_map.mp hx
    have hfs := (hsm s hm).flat
    refine ⟨_, s.map sL, rfl, st_LL, by rw [flat_sL, List.length_map]; omega, ?_⟩
    have e : (((asL S (stD s)).getD []).flatMap fun r => (asL S r).getD []) = sL s.flatten := row_items
    rw [e] at hQ
    rw [flat_sL]
    exact hQ
  have er : ((ss.map stD).map fun x => D.lst (((asL S x).getD []).flatMap fun r => (asL S r).getD [])) = ss.map fun s => D.lst (sL s.flatten) := by
    rw [List.map_map]
    exact List.map_congr_left fun s _ => congrArg D.lst row_items
  rw [er]
  dsimp only [newL]
  refine ⟨false, .inl (len_l rfl ?_)⟩
  refine ⟨_, rfl, by omega, by omega, ?_⟩
  rw [hn, Int.toNat_natCast]
  refine lc_map (fun x => match x with | .int p => .tupz (sL (colOf ss p.toNat)) | _ => .non) (fun b us hb => trivial) (fun x hx b us hb' => ⟨_, rfl, fun Q' hQ => ?_⟩) (by rw [rangeD_length, sizeLine_eq]; omega) ?_
  · obtain ⟨i, hi, e⟩ := List.getElem_of_mem hx
    obtain ⟨hi', e2⟩ := rangeD_get (List.getElem?_eq_getElem hi)
    rw [e] at e2
    subst e2
    simp only [s_seq, s_set, s_next, s_cont, s_break, s_expr, s_retN, s_var, s_c, s_op, s_nil, s_cons, s_cb, s_call, s_tup, s_lst, s_sub, s_bm, s_aug, s_asg, s_sl, s_nopart, s_part, s_ret, s_ifs, s_if, s_test, s_not, s_and, s_or, s_andV, s_orV, s_notV, s_oI, s_add, s_mul, s_cmp, s_cmps, s_eq, s_eqs, s_eqb, s_lc, s_for, s_ex, s_pn, s_pc, s_disp, s_r1, s_r2, s_e, s_z, wipeD, s_setdN, s_tcount, s_xget, s_get, s_fld, s_meth, s_make, s_raise, s_raiseI, s_dget2, List.getElem?_cons_zero, List.getElem?_cons_succ, List.set_cons_zero, List.set_cons_succ, Option.some.injEq, exists_eq_left', exists_eq_left, startD, List.map_cons, List.map_nil, List.length_cons, List.length_nil, List.replicate_succ, List.replicate_zero, List.append_nil, List.cons_append, List.nil_append, D.bl.injEq, D.int.injEq, D.str.injEq, D.tupz.injEq, D.ref.injEq, decide_eq_true_eq, decide_eq_false_iff_not, Bool.bne_false, Bool.bne_true, Nat.reduceAdd, Nat.reduceSub, Nat.reduceLeDiff, reduceCtorEq, true_and, and_true, false_implies, true_implies, imp_self, Bool.false_eq_true, forall_const, Int.zero_add]
    refine ⟨false, wi_l ?_⟩
    simp only [s_seq, s_set, s_next, s_cont, s_break, s_expr, s_retN, s_var, s_c, s_op, s_nil, s_cons, s_cb, s_call, s_tup, s_lst, s_sub, s_bm, s_aug, s_asg, s_sl, s_nopart, s_part, s_ret, s_ifs, s_if, s_test, s_not, s_and, s_or, s_andV, s_orV, s_notV, s_oI, s_add, s_mul, s_cmp, s_cmps, s_eq, s_eqs, s_eqb, s_lc, s_for, s_ex, s_pn, s_pc, s_disp, s_r1, s_r2, s_e, s_z, wipeD, s_setdN, s_tcount, s_xget, s_get, s_fld, s_meth, s_make, s_raise, s_raiseI, s_dget2, List.getElem?_cons_zero, List.getElem?_cons_succ, List.set_cons_zero, List.set_cons_succ, Option.some.injEq, exists_eq_left', exists_eq_left, startD, List.map_cons, List.map_nil, List.length_cons, List.length_nil, List.replicate_succ, List.replicate_zero, List.append_nil, List.cons_append, List.nil_append, D.bl.injEq, D.int.injEq, D.str.injEq, D.tupz.injEq, D.ref.injEq, decide_eq_true_eq, decide_eq_false_iff_not, Bool.bne_false, Bool.bne_true, Nat.reduceAdd, Nat.reduceSub, Nat.reduceLeDiff, reduceCtorEq, true_and, and_true, false_implies, true_implies, imp_self, Bool.false_eq_true, forall_const]
    refine ⟨_, rfl, fun hz2 => ?_⟩
    refine lc_map (fun x => (((asL S x).getD [])[i]?).getD .non) (fun b us hb => rfl) (fun x hx b us hb'' => ⟨_, rfl, fun Q2 hQ2 => ?_⟩) hz2 ?_
    · simp only [s_seq, s_set, s_next, s_cont, s_break, s_expr, s_retN, s_var, s_c, s_op, s_nil, s_cons, s_cb, s_call, s_tup, s_lst, s_sub, s_bm, s_aug, s_asg, s_sl, s_nopart, s_part, s_ret, s_ifs, s_if, s_test, s_not, s_and, s_or, s_andV, s_orV, s_notV, s_oI, s_add, s_mul, s_cmp, s_cmps, s_eq, s_eqs, s_eqb, s_lc, s_for, s_ex, s_pn, s_pc, s_disp, s_r1, s_r2, s_e, s_z, wipeD, s_setdN, s_tcount, s_xget, s_get, s_fld, s_meth, s_make, s_raise, s_raiseI, s_dget2, List.getElem?_cons_zero, List.getElem?_cons_succ, List.set_cons_zero, List.set_cons_succ, Option.some.injEq, exists_eq_left', exists_eq_left, startD, List.map_cons, List.map_nil, List.length_cons, List.length_nil, List.replicate_succ, List.replicate_zero, List.append_nil, List.cons_append, List.nil_append, D.bl.injEq, D.int.injEq, D.str.injEq, D.tupz.injEq, D.ref.injEq, decide_eq_true_eq, decide_eq_false_iff_not, Bool.bne_false, Bool.bne_true, Nat.reduceAdd, Nat.reduceSub, Nat.reduceLeDiff, reduceCtorEq, true_and, and_true, false_implies, true_implies, imp_self, Bool.false_eq_true, forall_const]
      obtain ⟨s, hm, rfl⟩ := List.mem_map.mp hx
      have hi2 : i < (sL s.flatten).length := by rw [List.length_map, hfl s hm]; exact hi'
      refine ix_l rfl (atI_nat (List.getElem?_eq_getElem hi2)) ?_
      have e : (((asL S (.lst (sL s.flatten))).getD [])[i]?).getD .non = (sL s.flatten)[i] := by
        show ((sL s.flatten)[i]?).getD .non = _
        rw [List.getElem?_eq_getElem hi2]; rfl
      rw [e] at hQ2
      exact hQ2
    have ec : ((ss.map fun s => D.lst (sL s.flatten)).map fun x => (((asL S x).getD [])[i]?).getD .non) = sL (colOf ss i) := by
      unfold colOf sL
      rw [List.map_map, List.map_map]
      refine List.map_congr_left fun s hm => ?_
      have hi2 : i < s.flatten.length := by rw [hfl s hm]; exact hi'
      show ((sL s.flatten)[i]?).getD .non = .str (s.flatten.getD i (Str.ofString ""))
      rw [List.getElem?_map, List.getD, List.getElem?_eq_getElem hi2]
      rfl
    rw [ec]
    refine .inr ⟨_, _, rfl, rfl, ?_⟩
    have e4 : ((0 : Int) + (i : Int)).toNat = i := by omega
    dsimp only at hQ
    rw [e4] at hQ
    exact hQ
  have ecols : ((rangeD 0 n).map fun x => match x with | .int p => D.tupz (sL (colOf ss p.toNat)) | _ => .non) = (cols ss n).map fun c => D.tupz (sL c) := by
    unfold rangeD cols
    rw [List.map_map, List.map_map]
    refine List.map_congr_left fun i _ => ?_
    show D.tupz (sL (colOf ss ((0 : Int) + (i : Int)).toNat)) = _
    have e4 : ((0 : Int) + (i : Int)).toNat = i := by omega
    rw [e4]
    rfl
  rw [ecols]
  dsimp only [newL]
  refine .inl (len_l rfl ?_)
  refine ⟨_, rfl, by omega, by omega, ?_⟩
  rw [hn, Int.toNat_natCast]
  have ixc : ∀ {i : Nat} {Q : VQ}, i < n → Q (.tupz (sL (colOf ss i))) S → oIx (.lst ((cols ss n).map fun c => D.tupz (sL c))) (.int i) S Q := fun {i Q} hi h => ix_l rfl (atI_nat (j := i) (by rw [List.getElem?_map, hcg i hi]; rfl)) h
  have ixi : ∀ {i : Nat} {x : D} {Q : VQ}, items[i]? = some x → Q x S → oIx (.lst items) (.int i) S Q := fun {i x Q} hi h => ix_l rfl (atI_nat hi) h
  have ixh : ∀ {i : Nat} {Q : VQ}, Q (.str ((colOf ss i).headD (Str.ofString ""))) S → oIx (.tupz (sL (colOf ss i))) (.int 0) S Q := fun {i Q} h => by
    refine ix_t (xs := sL (colOf ss i)) rfl ?_ h
    rw [← hss, col_ne]
    exact at0
  -- what an item is
  have item : ∀ i, i < n → ∃ x, items[i]? = some x ∧ flatI x = true ∧ isI x = !(same (colOf ss i)) ∧ (same (colOf ss i) = true → x = .str ((colOf ss i).headD (Str.ofString ""))) ∧ (same (colOf ss i) = false → ∃ k, x = .int k) := fun i hi => by
    cases h : same (colOf ss i) with
    | true => exact ⟨_, hR.word i _ (hcg i hi) h, rfl, rfl, fun _ => rfl, fun h => (nomatch h)⟩
    | false =>
      obtain ⟨k, hk⟩ := hR.hole i _ (hcg i hi) h
      exact ⟨_, hk, rfl, rfl, fun h => (nomatch h), fun _ => ⟨k, rfl⟩⟩
  refine ⟨fun i ρ S' => S' = S ∧ ∃ x5 x6 x7 x9, ρ = [some d, some y, some (.lst items), some (.lst (ss.map fun s => D.lst (sL s.flatten))), some (.lst ((cols ss n).map fun c => D.tupz (sL c))), x5, x6, x7, none, x9, none], ⟨rfl, none, none, none, none, rfl⟩, fun i ρ S' _ _ => trivial, fun i x ρ S' hxi ⟨es, x5, x6, x7, x9, eρ⟩ => ?_, fun ρ S' ⟨es, x5, x6, x7, x9, eρ⟩ => ?_⟩
  · subst es eρ
    obtain ⟨hi, rfl⟩ := rangeD_get hxi
    obtain ⟨x, hx1, hx2, hx3, hx4, hx5⟩ := item i hi
    refine ⟨_, rfl, ?_⟩
    simp only [s_seq, s_set, s_next, s_cont, s_break, s_expr, s_retN, s_var, s_c, s_op, s_nil, s_cons, s_cb, s_call, s_tup, s_lst, s_sub, s_bm, s_aug, s_asg, s_sl, s_nopart, s_part, s_ret, s_ifs, s_if, s_test, s_not, s_and, s_or, s_andV, s_orV, s_notV, s_oI, s_add, s_mul, s_cmp, s_cmps, s_eq, s_eqs, s_eqb, s_lc, s_for, s_ex, s_pn, s_pc, s_disp, s_r1, s_r2, s_e, s_z, wipeD, s_setdN, s_tcount, s_xget, s_get, s_fld, s_meth, s_make, s_raise, s_raiseI, s_dget2, List.getElem?_cons_zero, List.getElem?_cons_succ, List.set_cons_zero, List.set_cons_succ, Option.some.injEq, exists_eq_left', exists_eq_left, startD, List.map_cons, List.map_nil, List.length_cons, List.length_nil, List.replicate_succ, List.replicate_zero, List.append_nil, List.cons_append, List.nil_append, D.bl.injEq, D.int.injEq, D.str.injEq, D.tupz.injEq, D.ref.injEq, decide_eq_true_eq, decide_eq_false_iff_not, Bool.bne_false, Bool.bne_true, Nat.reduceAdd, Nat.reduceSub, Nat.reduceLeDiff, reduceCtorEq, true_and, and_true, false_implies, true_implies, imp_self, Bool.false_eq_true, forall_const, Int.zero_add]
    refine ixc hi ?_
    refine ⟨_, rfl, ixc hi (ixh ⟨rfl, flats_sL, .inl (len_l rfl ?_)⟩)⟩
    simp only [s_seq, s_set, s_next, s_cont, s_break, s_expr, s_retN, s_var, s_c, s_op, s_nil, s_cons, s_cb, s_call, s_tup, s_lst, s_sub, s_bm, s_aug, s_asg, s_sl, s_nopart, s_part, s_ret, s_ifs, s_if, s_test, s_not, s_and, s_or, s_andV, s_orV, s_notV, s_oI, s_add, s_mul, s_cmp, s_cmps, s_eq, s_eqs, s_eqb, s_lc, s_for, s_ex, s_pn, s_pc, s_disp, s_r1, s_r2, s_e, s_z, wipeD, s_setdN, s_tcount, s_xget, s_get, s_fld, s_meth, s_make, s_raise, s_raiseI, s_dget2, List.getElem?_cons_zero, List.getElem?_cons_succ, List.set_cons_zero, List.set_cons_succ, Option.some.injEq, exists_eq_left', exists_eq_left, startD, List.map_cons, List.map_nil, List.length_cons, List.length_nil, List.replicate_succ, List.replicate_zero, List.append_nil, List.cons_append, List.nil_append, D.bl.injEq, D.int.injEq, D.str.injEq, D.tupz.injEq, D.ref.injEq, decide_eq_true_eq, decide_eq_false_iff_not, Bool.bne_false, Bool.bne_true, Nat.reduceAdd, Nat.reduceSub, Nat.reduceLeDiff, reduceCtorEq, true_and, and_true, false_implies, true_implies, imp_self, Bool.false_eq_true, forall_const]
    have ct := cnt_same (c := colOf ss i) rfl
    have hlc : (colOf ss i).length = ss.length := by unfold colOf; rw [List.length_map]
    have eb : (decide ((((sL (colOf ss i)).countP fun z => eqF z (.str ((colOf ss i).headD (Str.ofString ""))) : Nat) : Int) = (((ss.map fun s => D.lst (sL s.flatten)).length : Nat) : Int))) = same (colOf ss i) := by
      rw [List.length_map, ← hlc]
      cases h : same (colOf ss i) with
      | true => rw [ct.mpr h]; exact decide_eq_true rfl
      | false =>
        refine decide_eq_false fun e => ?_
        have := ct.mp (by omega)
        rw [h] at this
        cases this
    rw [eb]
    refine ixi hx1 ⟨x, rfl, hx2, ?_⟩
    dsimp only
    rw [s_eqb, hx3]
    have nb : (decide ((!same (colOf ss i)) = same (colOf ss i)) != false) = false := by cases same (colOf ss i) <;> rfl
    rw [nb]
    have okc : ∀ {j : Nat}, j < n → ∀ w ∈ colOf ss j, PyData.strOk w = true := fun {j} hj => colOf_ok hsm hfl hj
    refine ⟨false, rfl, fun h => (nomatch h), fun _ => ⟨fun hc => ?_, fun hc => ?_⟩⟩
    · have hsame : same (colOf ss i) = true := by rw [← eb]; exact decide_eq_true hc
      refine ixi hx1 (ixc hi (ixh ?_))
      rw [hx4 hsame, s_eqs]
      refine ⟨false, by simp, fun h => (nomatch h), fun _ => ?_⟩
      refine ⟨_, rfl, by omega, by omega, ?_⟩
      rw [hsame, Int.toNat_natCast]
      refine ⟨fun j ρ S2 => S2 = S' ∧ ∃ y7 y9, ρ = [some d, some y, some (.lst items), some (.lst (ss.map fun s => D.lst (sL s.flatten))), some (.lst ((cols ss n).map fun c => D.tupz (sL c))), some (.int i), some (.bl true), y7, none, y9, none], ⟨rfl, _, _, rfl⟩, fun j ρ S' _ _ => trivial, fun j x' ρ S2 hxj ⟨es, y7, y9, eρ⟩ => ?_, fun ρ S2 ⟨es, y7, y9, eρ⟩ => ?_⟩
      · subst es eρ
        obtain ⟨hj, rfl⟩ := rangeD_get hxj
        have hjn : j < n := by omega
        refine ⟨_, rfl, ?_⟩
        simp only [s_seq, s_set, s_next, s_cont, s_break, s_expr, s_retN, s_var, s_c, s_op, s_nil, s_cons, s_cb, s_call, s_tup, s_lst, s_sub, s_bm, s_aug, s_asg, s_sl, s_nopart, s_part, s_ret, s_ifs, s_if, s_test, s_not, s_and, s_or, s_andV, s_orV, s_notV, s_oI, s_add, s_mul, s_cmp, s_cmps, s_eq, s_eqs, s_eqb, s_lc, s_for, s_ex, s_pn, s_pc, s_disp, s_r1, s_r2, s_e, s_z, wipeD, s_setdN, s_tcount, s_xget, s_get, s_fld, s_meth, s_make, s_raise, s_raiseI, s_dget2, List.getElem?_cons_zero, List.getElem?_cons_succ, List.set_cons_zero, List.set_cons_succ, Option.some.injEq, exists_eq_left', exists_eq_left, startD, List.map_cons, List.map_nil, List.length_cons, List.length_nil, List.replicate_succ, List.replicate_zero, List.append_nil, List.cons_append, List.nil_append, D.bl.injEq, D.int.injEq, D.str.injEq, D.tupz.injEq, D.ref.injEq, decide_eq_true_eq, decide_eq_false_iff_not, Bool.bne_false, Bool.bne_true, Nat.reduceAdd, Nat.reduceSub, Nat.reduceLeDiff, reduceCtorEq, true_and, and_true, false_implies, true_implies, imp_self, Bool.false_eq_true, forall_const, Int.zero_add]
        refine ixc hi (ixc hjn (eq_tups (okc hi) (okc hjn) ?_))
        exact ⟨fun h => (nomatch h), fun _ => ⟨rfl, _, _, rfl⟩⟩
      · subst es eρ
        exact ⟨rfl, _, _, _, _, rfl⟩
    · have hsame : same (colOf ss i) = false := by rw [← eb]; exact decide_eq_false hc
      refine ⟨_, rfl, by omega, by omega, ?_⟩
      rw [hsame, Int.toNat_natCast]
      obtain ⟨k, rfl⟩ := hx5 hsame
      refine ⟨fun j ρ S2 => S2 = S' ∧ ∃ y7 y9, ρ = [some d, some y, some (.lst items), some (.lst (ss.map fun s => D.lst (sL s.flatten))), some (.lst ((cols ss n).map fun c => D.tupz (sL c))), some (.int i), some (.bl false), y7, none, y9, none], ⟨rfl, _, _, rfl⟩, fun j ρ S' _ _ => trivial, fun j x' ρ S2 hxj ⟨es, y7, y9, eρ⟩ => ?_, fun ρ S2 ⟨es, y7, y9, eρ⟩ => ?_⟩
      · subst es eρ
        obtain ⟨hj, rfl⟩ := rangeD_get hxj
        have hjn : j < n := by omega
        obtain ⟨x2, hy1, hy2, hy3, hy4, hy5⟩ := item j hjn
        refine ⟨_, rfl, ?_⟩
        simp only [s_seq, s_set, s_next, s_cont, s_break, s_expr, s_retN, s_var, s_c, s_op, s_nil, s_cons, s_cb, s_call, s_tup, s_lst, s_sub, s_bm, s_aug, s_asg, s_sl, s_nopart, s_part, s_ret, s_ifs, s_if, s_test, s_not, s_and, s_or, s_andV, s_orV, s_notV, s_oI, s_add, s_mul, s_cmp, s_cmps, s_eq, s_eqs, s_eqb, s_lc, s_for, s_ex, s_pn, s_pc, s_disp, s_r1, s_r2, s_e, s_z, wipeD, s_setdN, s_tcount, s_xget, s_get, s_fld, s_meth, s_make, s_raise, s_raiseI, s_dget2, List.getElem?_cons_zero, List.getElem?_cons_succ, List.set_cons_zero, List.set_cons_succ, Option.some.injEq, exists_eq_left', exists_eq_left, startD, List.map_cons, List.map_nil, List.length_cons, List.length_nil, List.replicate_succ, List.replicate_zero, List.append_nil, List.cons_append, List.nil_append, D.bl.injEq, D.int.injEq, D.str.injEq, D.tupz.injEq, D.ref.injEq, decide_eq_true_eq, decide_eq_false_iff_not, Bool.bne_false, Bool.bne_true, Nat.reduceAdd, Nat.reduceSub, Nat.reduceLeDiff, reduceCtorEq, true_and, and_true, false_implies, true_implies, imp_self, Bool.false_eq_true, forall_const, Int.zero_add]
        refine ixc hi (ixc hjn (eq_tups (okc hi) (okc hjn) ?_))
        refine ⟨fun _ => ?_, fun h => (nomatch h)⟩
        refine ixi hy1 ⟨x2, rfl, hy2, ?_⟩
        cases hsj : same (colOf ss j) with
        | true =>
          rw [hsj] at hy3
          rw [hy3]
          exact ⟨false, rfl, fun h => (nomatch h), fun _ => ⟨rfl, _, _, rfl⟩⟩
        | false =>
          obtain ⟨k', rfl⟩ := hy5 hsj
          refine ⟨true, rfl, fun _ => ?_, fun h => (nomatch h)⟩
          refine ixi hx1 (ixi hy1 ?_)
          rw [s_eq, s_eqb]
          have e := hR.eq i j _ _ k k' (hcg i hi) (hcg j hjn) hsame hx1 hy1
          have eb2 : (decide ((decide (k = k') != false) = (decide (colOf ss i = colOf ss j) != false)) != true) = false := by
            by_cases hk : k = k'
            · simp [hk, e.mp hk]
            · have : ¬ colOf ss i = colOf ss j := fun q => hk (e.mpr q)
              simp [hk, this]
          rw [eb2]
          exact ⟨false, rfl, fun h => (nomatch h), fun _ => ⟨rfl, _, _, rfl⟩⟩
      · subst es eρ
        exact ⟨rfl, _, _, _, _, rfl⟩
  · subst es eρ
    simp only [s_seq, s_set, s_next, s_cont, s_break, s_expr, s_retN, s_var, s_c, s_op, s_nil, s_cons, s_cb, s_call, s_tup, s_lst, s_sub, s_bm, s_aug, s_asg, s_sl, s_nopart, s_part, s_ret, s_ifs, s_if, s_test, s_not, s_and, s_or, s_andV, s_orV, s_notV, s_oI, s_add, s_mul, s_cmp, s_cmps, s_eq, s_eqs, s_eqb, s_lc, s_for, s_ex, s_pn, s_pc, s_disp, s_r1, s_r2, s_e, s_z, wipeD, s_setdN, s_tcount, s_xget, s_get, s_fld, s_meth, s_make, s_raise, s_raiseI, s_dget2, List.getElem?_cons_zero, List.getElem?_cons_succ, List.set_cons_zero, List.set_cons_succ, Option.some.injEq, exists_eq_left', exists_eq_left, startD, List.map_cons, List.map_nil, List.length_cons, List.length_nil, List.replicate_succ, List.replicate_zero, List.append_nil, List.cons_append, List.nil_append, D.bl.injEq, D.int.injEq, D.str.injEq, D.tupz.injEq, D.ref.injEq, decide_eq_true_eq, decide_eq_false_iff_not, Bool.bne_false, Bool.bne_true, Nat.reduceAdd, Nat.reduceSub, Nat.reduceLeDiff, reduceCtorEq, true_and, and_true, false_implies, true_implies, imp_self, Bool.false_eq_true, forall_const]
    exact ret_ q
end
end N42
set_option Elab.async false
set_option linter.all false
set_option maxRecDepth 100000
set_option maxHeartbeats 4000000
namespace N42
open PySem PySem.Spec PyProof.Rows L2 KR
/-! ### the plain law: what form_of tells is right -/
def wsOf (cs : List (List Str)) : List D := cs.map fun c => if same c then .str (c.headD (Str.ofString "")) else .non
def fin : List (List Str) → List (List Str) → List (List Str)
  | hs, [] => hs
  | hs, c :: cs => if same c = true ∨ c ∈ hs then fin hs cs else fin (hs ++ [c]) cs
theorem fin_pre : ∀ (cs hs : List (List Str)), ∃ t, fin hs cs = hs ++ t
  | [], hs => ⟨[], by simp [fin]⟩
  | c :: cs, hs => by
    unfold fin
    split
    · exact fin_pre cs hs
    · obtain ⟨t, e⟩ := fin_pre cs (hs ++ [c])
      exact ⟨c :: t, by rw [e]; simp⟩
theorem idx_pre {hs cs : List (List Str)} {c : List Str} (h : c ∈ hs) : (fin hs cs).idxOf c = hs.idxOf c := by
  obtain ⟨t, e⟩ := fin_pre cs hs
  rw [e, List.idxOf_append, if_pos h]
theorem opn_same {hs : List (List Str)} {c : List Str} {cs : List (List Str)} (h : same c = true) : opn hs (wsOf (c :: cs)) (c :: cs) = .str (c.headD (Str.ofString "")) :: opn hs (wsOf cs) cs := by
  unfold wsOf
  rw [List.map_cons, if_pos h]
  simp [opn]
theorem opn_old {hs : List (List Str)} {c : List Str} {cs : List (List Str)} (h : same c = false) (hm : c ∈ hs) : opn hs (wsOf (c :: cs)) (c :: cs) = .int (hs.idxOf c : Nat) :: opn hs (wsOf cs) cs := by
  unfold wsOf
  rw [List.map_cons, if_neg (by rw [h]; decide)]
  simp [opn, hm]
theorem opn_new {hs : List (List Str)} {c : List Str} {cs : List (List Str)} (h : same c = false) (hm : c ∉ hs) : opn hs (wsOf (c :: cs)) (c :: cs) = .int (hs.length : Nat) :: opn (hs ++ [c]) (wsOf cs) cs := by
  unfold wsOf
  rw [List.map_cons, if_neg (by rw [h]; decide)]
  simp [opn, hm]
theorem opn_length : ∀ (cs hs : List (List Str)), (opn hs (wsOf cs) cs).length = cs.length
  | [], hs => by simp [opn]
  | c :: cs, hs => by
    cases h : same c with
    | true => rw [opn_same h, List.length_cons, List.length_cons, opn_length cs]
    | false =>
      by_cases hm : c ∈ hs
      · rw [opn_old h hm, List.length_cons, List.length_cons, opn_length cs]
      · rw [opn_new h hm, List.length_cons, List.length_cons, opn_length cs]
theorem opn_get : ∀ (cs hs : List (List Str)) (k : Nat) (c : List Str), cs[k]? = some c →
    (opn hs (wsOf cs) cs)[k]? = some (if same c = true then D.str (c.headD (Str.ofString "")) else D.int (((fin hs cs).idxOf c : Nat) : Int)) ∧ (same c = false → c ∈ fin hs cs)
  | c0 :: cs, hs, k, c, hk => by
    cases h : same c0 with
    | true =>
      have ef : fin hs (c0 :: cs) = fin hs cs := by rw [fin, if_pos (.inl h)]
      rw [opn_same h, ef]
      cases k with
      | zero =>
        simp at hk
        subst hk
        exact ⟨by simp [h], fun h' => by rw [h] at h'; cases h'⟩
      | succ k =>
        rw [List.getElem?_cons_succ] at hk ⊢
        exact opn_get cs hs k c hk
    | false =>
      by_cases hm : c0 ∈ hs
      · have ef : fin hs (c0 :: cs) = fin hs cs := by rw [fin, if_pos (.inr hm)]
        rw [opn_old h hm, ef]
        cases k with
        | zero =>
          simp at hk
          subst hk
          refine ⟨by simp [h, idx_pre hm], fun _ => ?_⟩
          obtain ⟨t, e⟩ := fin_pre cs hs
          rw [e]
          exact List.mem_append_left _ hm
        | succ k =>
          rw [List.getElem?_cons_succ] at hk ⊢
          exact opn_get cs hs k c hk
      · have ef : fin hs (c0 :: cs) = fin (hs ++ [c0]) cs := by
          rw [fin, if_neg (by rw [h]; simp [hm])]
        rw [opn_new h hm, ef]
        have hm2 : c0 ∈ hs ++ [c0] := by simp
        cases k with
        | zero =>
          simp at hk
          subst hk
          refine ⟨?_, fun _ => ?_⟩
          · rw [idx_pre hm2, List.idxOf_append, if_neg hm]
            simp [h]
          · obtain ⟨t, e⟩ := fin_pre cs (hs ++ [c0])
            rw [e]
            exact List.mem_append_left _ hm2
        | succ k =>
          rw [List.getElem?_cons_succ] at hk ⊢
          exact opn_get cs (hs ++ [c0]) k c hk
theorem opn_nmb : ∀ (cs hs : List (List Str)), Nmb (hs.length : Nat) (opn hs (wsOf cs) cs)
  | [], hs => by simp [opn, Nmb]
  | c :: cs, hs => by
    cases h : same c with
    | true => rw [opn_same h]; exact opn_nmb cs hs
    | false =>
      by_cases hm : c ∈ hs
      · rw [opn_old h hm]
        have hi := List.idxOf_lt_length_of_mem hm
        refine ⟨by omega, by omega, ?_⟩
        have e : max ((hs.length : Nat) : Int) (((hs.idxOf c : Nat) : Int) + 1) = ((hs.length : Nat) : Int) := by omega
        rw [e]
        exact opn_nmb cs hs
      · rw [opn_new h hm]
        refine ⟨by omega, Int.le_refl _, ?_⟩
        have e : max ((hs.length : Nat) : Int) (((hs.length : Nat) : Int) + 1) = (((hs ++ [c]).length : Nat) : Int) := by rw [List.length_append]; show _ = ((hs.length + 1 : Nat) : Int); omega
        rw [e]
        exact opn_nmb cs (hs ++ [c])
theorem rgt (cs : List (List Str)) : Rgt (opn [] (wsOf cs) cs) cs where
  len := opn_length cs []
  nmb := opn_nmb cs []
  word := fun k c h hs => by
    have := (opn_get cs [] k c h).1
    rw [if_pos hs] at this
    exact this
  hole := fun k c h hs => by
    have := (opn_get cs [] k c h).1
    rw [if_neg (by rw [hs]; decide)] at this
    exact ⟨_, this⟩
  eq := fun k j c e i i' hk hj hs h1 h2 => by
    obtain ⟨g1, m1⟩ := opn_get cs [] k c hk
    obtain ⟨g2, m2⟩ := opn_get cs [] j e hj
    rw [if_neg (by rw [hs]; decide)] at g1
    rw [g1] at h1
    cases h1
    cases he : same e with
    | true =>
      rw [if_pos he, h2] at g2
      cases g2
    | false =>
      rw [if_neg (by rw [he]; decide), h2] at g2
      cases g2
      refine ⟨fun q => ?_, fun q => by rw [q]⟩
      have a1 := List.getElem_idxOf (List.idxOf_lt_length_of_mem (m1 hs))
      have a2 := List.getElem_idxOf (List.idxOf_lt_length_of_mem (m2 he))
      have q' : (fin [] cs).idxOf c = (fin [] cs).idxOf e := by omega
      rw [← a1, ← a2]
      simp only [q']
theorem opn_ok : ∀ (cs hs : List (List Str)), (∀ c ∈ cs, ∀ w ∈ c, sOk w) → (opn hs (wsOf cs) cs).all okI = true
  | [], hs, _ => by simp [opn]
  | c :: cs, hs, hc => by
    have ih := fun hs => opn_ok cs hs fun c' h' => hc c' (List.mem_cons_of_mem _ h')
    cases h : same c with
    | true =>
      rw [opn_same h, List.all_cons, ih]
      have : okI (.str (c.headD (Str.ofString ""))) = true := by
        cases c with
        | nil => decide +kernel
        | cons w c => exact hc _ List.mem_cons_self w List.mem_cons_self
      rw [this]
      rfl
    | false =>
      by_cases hm : c ∈ hs
      · rw [opn_old h hm, List.all_cons, ih]; rfl
      · rw [opn_new h hm, List.all_cons, ih]; rfl
theorem cutL_flat {α : Type} : ∀ {ns : List Nat} {xs : List α}, ns.sum = xs.length → (cutL xs ns).flatten = xs
  | [], xs, h => by
    have : xs = [] := List.length_eq_zero_iff.mp h.symm
    subst this
    rfl
  | n :: ns, xs, h => by
    rw [List.sum_cons] at h
    unfold cutL
    rw [List.flatten_cons, cutL_flat (by rw [List.length_drop]; omega), List.take_append_drop]
end N42
set_option Elab.async false
set_option linter.all false
set_option maxRecDepth 100000
set_option maxHeartbeats 4000000
namespace N42
open PySem PySem.Spec PyProof.Rows L2 KR
section
variable {K : Kx} {S S' : Store} {Q : VQ} {E : EQ} {ds : List D} {a : Addr}
theorem smalls_isTs {ss : List (List (List Str))} (h : ∀ s ∈ ss, Small s) : isTs (ss.map stD) = true ∧ dpDs (ss.map stD) ≤ 2 := by
  constructor
  · refine isTs_all fun d hd => ?_
    obtain ⟨s, hm, rfl⟩ := List.mem_map.mp hd
    unfold isT
    exact (small_isTs (h s hm)).1
  · refine dpDs_le fun d hd => ?_
    obtain ⟨s, hm, rfl⟩ := List.mem_map.mp hd
    have := (small_isTs (h s hm)).2
    unfold dpD
    omega
theorem flatE_l {xs : List D} {d : D} : flatE (.lst xs) d = none := by cases d <;> rfl
theorem flatE_r {xs : List D} {d : D} : flatE d (.lst xs) = none := by cases d <;> rfl
theorem eq_given {neg : Bool} {d : D} {ss : List (List (List Str))} (hs : ∀ s ∈ ss, Small s) (h : asL S d = some (ss.map stD)) (q : Q (.bl (!neg)) S) : oEq neg (.lst (ss.map stD)) d S Q := by
  obtain ⟨t1, t2⟩ := smalls_isTs hs
  have t3 : isT (.lst (ss.map stD)) = true := by unfold isT; exact t1
  refine eq_same (p := toP (.lst (ss.map stD))) flatE_l (pv_toP t3) (by unfold toP; exact .lst h (pv_toPs t1)) (lay_toP t3) (by rw [dp_toP]; unfold dpD; omega) q
theorem nil_given {d : D} {ss : List (List (List Str))} (hs : ∀ s ∈ ss, Small s) (h : asL S d = some (ss.map stD)) (q : Q (.bl ss.isEmpty) S) : oEq false d (.lst []) S Q := by
  obtain ⟨t1, t2⟩ := smalls_isTs hs
  have t3 : isT (.lst (ss.map stD)) = true := by unfold isT; exact t1
  refine eq_p (p := toP (.lst (ss.map stD))) flatE_r (by unfold toP; exact .lst h (pv_toPs t1)) (pv_toP (d := .lst []) (by unfold isT isTs; rfl)) ?_ (by unfold toP toPs; decide) ?_
  · unfold SeqAt.shaped
    rw [lay_toP t3, dp_toP]
    unfold dpD
    rw [decide_eq_true (by omega)]
    rfl
  · cases ss with
    | nil => exact q
    | cons s ss => exact q
theorem p_law (c : SaysB fa fn K.K) (ns : List Int) (hn : ns.length ≤ 63) : w_law K X0 { nx := fun _ _ => False, rt := fun d _ => d = .bl true } (startD ["_law_script", "_law_state", "_law_spoil", "_law_way", "_law_place", "_law_which", "_law_twice", "_law_many", "_law_shape_here", "_law_pool_here", "_law_given", "_law_handed", "_law_told", "_law_row", "_law_k", "_law_stretch_here", "_law_size"] [.scr ns]) fun _ => none := by
  unfold w_law
  simp only [s_seq, s_set, s_next, s_cont, s_break, s_expr, s_retN, s_var, s_c, s_op, s_nil, s_cons, s_cb, s_call, s_tup, s_lst, s_sub, s_bm, s_aug, s_asg, s_sl, s_nopart, s_part, s_ret, s_ifs, s_if, s_test, s_not, s_and, s_or, s_andV, s_orV, s_notV, s_oI, s_add, s_mul, s_cmp, s_cmps, s_eq, s_eqs, s_eqb, s_lc, s_for, s_ex, s_pn, s_pc, s_disp, s_r1, s_r2, s_e, s_z, wipeD, s_setdN, s_tcount, s_xget, s_get, s_fld, s_meth, s_make, s_raise, s_raiseI, s_dget2, List.getElem?_cons_zero, List.getElem?_cons_succ, List.set_cons_zero, List.set_cons_succ, Option.some.injEq, exists_eq_left', exists_eq_left, startD, List.map_cons, List.map_nil, List.length_cons, List.length_nil, List.replicate_succ, List.replicate_zero, List.append_nil, List.cons_append, List.nil_append, D.bl.injEq, D.int.injEq, D.str.injEq, D.tupz.injEq, D.ref.injEq, decide_eq_true_eq, decide_eq_false_iff_not, Bool.bne_false, Bool.bne_true, Nat.reduceAdd, Nat.reduceSub, Nat.reduceLeDiff, reduceCtorEq, true_and, and_true, false_implies, true_implies, imp_self, Bool.false_eq_true, forall_const]
  refine ⟨ns, rfl, fun a S0 _ dr0 => ?_⟩
  refine ⟨a, 6, rfl, dr0.ds, by decide, by decide, fun spoil S1 _ _ dr1 => ?_⟩
  refine ⟨a, 5, rfl, dr1.ds, by decide, by decide, fun way S2 _ _ dr2 => ?_⟩
  refine ⟨a, 3599, rfl, dr2.ds, by decide, by decide, fun place S3 hp0 _ dr3 => ?_⟩
  refine ⟨a, 1000, rfl, dr3.ds, by decide, by decide, fun which S4 hw0 _ dr4 => ?_⟩
  refine ⟨a, 2, rfl, dr4.ds, by decide, by decide, fun t0 S5 _ _ dr5 => ?_⟩
  refine ⟨a, 5, rfl, dr5.ds, by decide, by decide, fun t1 S6 _ _ dr6 => ?_⟩
  refine ⟨a, 3599, rfl, dr6.ds, by decide, by decide, fun t2 S7 ht2 _ dr7 => ?_⟩
  refine ⟨by decide, .inl ⟨by decide, .inl ?_⟩⟩
  refine ⟨a, dr7.ds, .inl ⟨_, rfl, by decide, by decide, fun many S8 hmany dr8 => ?_⟩⟩
  obtain ⟨m, rfl, hm0, hm1⟩ : ∃ m : Nat, many = .int (m : Int) ∧ 0 < m ∧ m ≤ 100 := by
    simp only [List.mem_cons, List.not_mem_nil, or_false] at hmany
    rcases hmany with rfl | rfl | rfl | rfl | rfl | rfl | rfl | rfl
    · exact ⟨1, rfl, by decide, by decide⟩
    · exact ⟨2, rfl, by decide, by decide⟩
    · exact ⟨3, rfl, by decide, by decide⟩
    · exact ⟨4, rfl, by decide, by decide⟩
    · exact ⟨2, rfl, by decide, by decide⟩
    · exact ⟨3, rfl, by decide, by decide⟩
    · exact ⟨10, rfl, by decide, by decide⟩
    · exact ⟨100, rfl, by decide, by decide⟩
  refine ⟨a, rfl, dr8.ds, fun shape S9 hsl hsb dr9 => ?_⟩
  refine ⟨fun ρ S => DS S a ∧ ∃ shape : List Nat, shape.length ≤ 60 ∧ (∀ n ∈ shape, n ≤ 30) ∧ ρ = [some (.scr ns), some (.ref a), some (.int spoil), some (.int way), some (.int place), some (.int which), some (.lst [.int t0, .int t1, .int t2]), some (.int m), some (.lst (iL shape)), none, none, none, none, none, none, none, none], ?_, ?_⟩
  · simp only [s_seq, s_set, s_next, s_cont, s_break, s_expr, s_retN, s_var, s_c, s_op, s_nil, s_cons, s_cb, s_call, s_tup, s_lst, s_sub, s_bm, s_aug, s_asg, s_sl, s_nopart, s_part, s_ret, s_ifs, s_if, s_test, s_not, s_and, s_or, s_andV, s_orV, s_notV, s_oI, s_add, s_mul, s_cmp, s_cmps, s_eq, s_eqs, s_eqb, s_lc, s_for, s_ex, s_pn, s_pc, s_disp, s_r1, s_r2, s_e, s_z, wipeD, s_setdN, s_tcount, s_xget, s_get, s_fld, s_meth, s_make, s_raise, s_raiseI, s_dget2, List.getElem?_cons_zero, List.getElem?_cons_succ, List.set_cons_zero, List.set_cons_succ, Option.some.injEq, exists_eq_left', exists_eq_left, startD, List.map_cons, List.map_nil, List.length_cons, List.length_nil, List.replicate_succ, List.replicate_zero, List.append_nil, List.cons_append, List.nil_append, D.bl.injEq, D.int.injEq, D.str.injEq, D.tupz.injEq, D.ref.injEq, decide_eq_true_eq, decide_eq_false_iff_not, Bool.bne_false, Bool.bne_true, Nat.reduceAdd, Nat.reduceSub, Nat.reduceLeDiff, reduceCtorEq, true_and, and_true, false_implies, true_implies, imp_self, Bool.false_eq_true, forall_const]
    refine ⟨fun hm => ⟨false, wi_l ?_⟩, fun _ => ⟨dr9.ds, shape, hsl, hsb, rfl⟩⟩
    simp only [s_seq, s_set, s_next, s_cont, s_break, s_expr, s_retN, s_var, s_c, s_op, s_nil, s_cons, s_cb, s_call, s_tup, s_lst, s_sub, s_bm, s_aug, s_asg, s_sl, s_nopart, s_part, s_ret, s_ifs, s_if, s_test, s_not, s_and, s_or, s_andV, s_orV, s_notV, s_oI, s_add, s_mul, s_cmp, s_cmps, s_eq, s_eqs, s_eqb, s_lc, s_for, s_ex, s_pn, s_pc, s_disp, s_r1, s_r2, s_e, s_z, wipeD, s_setdN, s_tcount, s_xget, s_get, s_fld, s_meth, s_make, s_raise, s_raiseI, s_dget2, List.getElem?_cons_zero, List.getElem?_cons_succ, List.set_cons_zero, List.set_cons_succ, Option.some.injEq, exists_eq_left', exists_eq_left, startD, List.map_cons, List.map_nil, List.length_cons, List.length_nil, List.replicate_succ, List.replicate_zero, List.append_nil, List.cons_append, List.nil_append, D.bl.injEq, D.int.injEq, D.str.injEq, D.tupz.injEq, D.ref.injEq, decide_eq_true_eq, decide_eq_false_iff_not, Bool.bne_false, Bool.bne_true, Nat.reduceAdd, Nat.reduceSub, Nat.reduceLeDiff, reduceCtorEq, true_and, and_true, false_implies, true_implies, imp_self, Bool.false_eq_true, forall_const]
    refine slB rfl (.inl ?_)
    have e3 : cutD (iL shape) none (some (3 : Int)) = iL (shape.take 3) := by
      show cutD (shape.map fun (n : Nat) => D.int (n : Int)) none (some ((3 : Nat) : Int)) = _
      rw [cutD_to, ← List.map_take]
    rw [e3]
    refine ⟨_, rfl, fun hz => ?_⟩
    refine lc_map (fun x => match x with | .int n => .int (n % 4) | _ => .non) (fun b us hb => rfl) (fun x hx b us hb => ⟨_, rfl, fun Q' hQ => ?_⟩) hz ?_
    · obtain ⟨k, _, rfl⟩ := List.mem_map.mp hx
      simp only [s_seq, s_set, s_next, s_cont, s_break, s_expr, s_retN, s_var, s_c, s_op, s_nil, s_cons, s_cb, s_call, s_tup, s_lst, s_sub, s_bm, s_aug, s_asg, s_sl, s_nopart, s_part, s_ret, s_ifs, s_if, s_test, s_not, s_and, s_or, s_andV, s_orV, s_notV, s_oI, s_add, s_mul, s_cmp, s_cmps, s_eq, s_eqs, s_eqb, s_lc, s_for, s_ex, s_pn, s_pc, s_disp, s_r1, s_r2, s_e, s_z, wipeD, s_setdN, s_tcount, s_xget, s_get, s_fld, s_meth, s_make, s_raise, s_raiseI, s_dget2, List.getElem?_cons_zero, List.getElem?_cons_succ, List.set_cons_zero, List.set_cons_succ, Option.some.injEq, exists_eq_left', exists_eq_left, startD, List.map_cons, List.map_nil, List.length_cons, List.length_nil, List.replicate_succ, List.replicate_zero, List.append_nil, List.cons_append, List.nil_append, D.bl.injEq, D.int.injEq, D.str.injEq, D.tupz.injEq, D.ref.injEq, decide_eq_true_eq, decide_eq_false_iff_not, Bool.bne_false, Bool.bne_true, Nat.reduceAdd, Nat.reduceSub, Nat.reduceLeDiff, reduceCtorEq, true_and, and_true, false_implies, true_implies, imp_self, Bool.false_eq_true, forall_const]
      exact ⟨by decide, hQ⟩
    · refine ⟨dr9.ds, (shape.take 3).map (· % 4), by rw [List.length_map, List.length_take]; omega, fun n hn => ?_, ?_⟩
      · obtain ⟨k, _, rfl⟩ := List.mem_map.mp hn
        omega
      · have e4 : (iL (shape.take 3)).map (fun x => match x with | .int n => D.int (n % 4) | _ => .non) = iL ((shape.take 3).map (· % 4)) := by
          unfold iL
          rw [List.map_map, List.map_map]
          rfl
        rw [e4]
  rintro ρ S10 ⟨ds10, shape, hsl, hsb, rfl⟩
  simp only [s_seq, s_set, s_next, s_cont, s_break, s_expr, s_retN, s_var, s_c, s_op, s_nil, s_cons, s_cb, s_call, s_tup, s_lst, s_sub, s_bm, s_aug, s_asg, s_sl, s_nopart, s_part, s_ret, s_ifs, s_if, s_test, s_not, s_and, s_or, s_andV, s_orV, s_notV, s_oI, s_add, s_mul, s_cmp, s_cmps, s_eq, s_eqs, s_eqb, s_lc, s_for, s_ex, s_pn, s_pc, s_disp, s_r1, s_r2, s_e, s_z, wipeD, s_setdN, s_tcount, s_xget, s_get, s_fld, s_meth, s_make, s_raise, s_raiseI, s_dget2, List.getElem?_cons_zero, List.getElem?_cons_succ, List.set_cons_zero, List.set_cons_succ, Option.some.injEq, exists_eq_left', exists_eq_left, startD, List.map_cons, List.map_nil, List.length_cons, List.length_nil, List.replicate_succ, List.replicate_zero, List.append_nil, List.cons_append, List.nil_append, D.bl.injEq, D.int.injEq, D.str.injEq, D.tupz.injEq, D.ref.injEq, decide_eq_true_eq, decide_eq_false_iff_not, Bool.bne_false, Bool.bne_true, Nat.reduceAdd, Nat.reduceSub, Nat.reduceLeDiff, reduceCtorEq, true_and, and_true, false_implies, true_implies, imp_self, Bool.false_eq_true, forall_const]
  refine ⟨a, rfl, ds10, fun pool S11 hp1 hp2 hp3 dr11 => ?_⟩
  refine ⟨true, _, rfl, by omega, by omega, ?_⟩
  rw [Int.toNat_natCast]
  refine lc_draw (fun d => ∃ s, d = stD s ∧ Small s) dr11.ds (fun _ => trivial) (by rw [rangeD_length, sizeLine_eq]; omega) (fun d hd Sx hsx => ⟨_, rfl, fun Q' hQ => ?_⟩) fun xs S12 hl hT dr12 => ?_
  · simp only [s_seq, s_set, s_next, s_cont, s_break, s_expr, s_retN, s_var, s_c, s_op, s_nil, s_cons, s_cb, s_call, s_tup, s_lst, s_sub, s_bm, s_aug, s_asg, s_sl, s_nopart, s_part, s_ret, s_ifs, s_if, s_test, s_not, s_and, s_or, s_andV, s_orV, s_notV, s_oI, s_add, s_mul, s_cmp, s_cmps, s_eq, s_eqs, s_eqb, s_lc, s_for, s_ex, s_pn, s_pc, s_disp, s_r1, s_r2, s_e, s_z, wipeD, s_setdN, s_tcount, s_xget, s_get, s_fld, s_meth, s_make, s_raise, s_raiseI, s_dget2, List.getElem?_cons_zero, List.getElem?_cons_succ, List.set_cons_zero, List.set_cons_succ, Option.some.injEq, exists_eq_left', exists_eq_left, startD, List.map_cons, List.map_nil, List.length_cons, List.length_nil, List.replicate_succ, List.replicate_zero, List.append_nil, List.cons_append, List.nil_append, D.bl.injEq, D.int.injEq, D.str.injEq, D.tupz.injEq, D.ref.injEq, decide_eq_true_eq, decide_eq_false_iff_not, Bool.bne_false, Bool.bne_true, Nat.reduceAdd, Nat.reduceSub, Nat.reduceLeDiff, reduceCtorEq, true_and, and_true, false_implies, true_implies, imp_self, Bool.false_eq_true, forall_const]
    exact ⟨a, shape, pool, rfl, hsx, hp1, hp2, hp3, hsl, hsb, fun rs Sy _ hsm dry => hQ _ _ ⟨rs, rfl, hsm⟩ dry⟩
  obtain ⟨ss, e⟩ := list_of (f := stD) fun x hx => (hT x hx).imp fun _ z => z.1
  subst e
  have hss : ∀ s ∈ ss, Small s := fun s hm => by
    obtain ⟨s', e', h'⟩ := hT _ (List.mem_map_of_mem (f := stD) hm)
    have : s' = s := by
      have inj : ∀ x y : List (List Str), stD x = stD y → x = y := fun x y h => by
        have h1 := D.lst.inj h
        refine (List.map_inj_right (f := fun r : List Str => D.lst (sL r)) (fun p q hpq => ?_)).mp h1
        exact (List.map_inj_right (f := D.str) (fun u v huv => D.str.inj huv)).mp (D.lst.inj hpq)
      exact (inj _ _ e').symm
    rw [← this]; exact h'
  rw [List.length_map, rangeD_length] at hl
  intro g hg
  have small_set : ∀ {ss : List (List (List Str))} {j : Nat} {rs : List (List Str)}, (∀ s ∈ ss, Small s) → Small rs → ∀ s ∈ ss.set j rs, Small s := fun {ss j rs} h1 h2 s hm => by
    rcases List.mem_or_eq_of_mem_set hm with h | h
    · exact h1 s h
    · rw [h]; exact h2
  -- one stretch reshaped
  have one : ∀ {S : Store} {ss : List (List (List Str))} {w p t : Int} {R : Store → Prop}, S g = some (.lst (ss.map stD)) → ss.length = m → (∀ s ∈ ss, Small s) → 0 ≤ t → 0 ≤ p →
      (∀ ss' : List (List (List Str)), ss'.length = m → (∀ s ∈ ss', Small s) → R (sup S g (.lst (ss'.map stD)))) →
      oIx (.ref g) (.int (t % (m : Int))) S fun d S1 => A_law_reshaped K [.int w, .int p, d] S1 (fun v S2 => 0 < (m : Int) ∧ oSet (.ref g) (.int (t % (m : Int))) v S2 R) fun c p S' => False := fun {S ss w p t R} hS hl hs ht hp hR => by
    have h0 : 0 ≤ t % (m : Int) := Int.emod_nonneg _ (by omega)
    have h1 : t % (m : Int) < (m : Int) := Int.emod_lt_of_pos _ (by omega)
    obtain ⟨j, hj⟩ := Int.eq_ofNat_of_zero_le h0
    rw [hj]
    have hjl : j < ss.length := by omega
    refine ix_l (xs := ss.map stD) (by show (match S g with | some (.lst xs) => some xs | _ => none) = _; rw [hS]) (atI_nat (j := j) (v := stD ss[j]) (by rw [List.getElem?_map, List.getElem?_eq_getElem hjl]; rfl)) ?_
    refine ⟨w, p, ss[j], rfl, hp, hs _ (List.getElem_mem hjl), fun rs' hs' => ⟨by omega, ?_⟩⟩
    refine set_l hS (j := j) (by unfold ixN; rw [List.length_map, if_pos (by omega), if_pos (by omega)]; simp) ?_
    have e : (ss.map stD).set j (stD rs') = (ss.set j rs').map stD := (List.map_set ..).symm
    rw [e]
    exact hR _ (by rw [List.length_set]; exact hl) (small_set hs hs')
  refine ⟨fun ρ S => ∃ ss : List (List (List Str)), ss.length = m ∧ (∀ s ∈ ss, Small s) ∧ S g = some (.lst (ss.map stD)) ∧ ρ = [some (.scr ns), some (.ref a), some (.int spoil), some (.int way), some (.int place), some (.int which), some (.lst [.int t0, .int t1, .int t2]), some (.int m), some (.lst (iL shape)), some (.lst (sL pool)), some (.ref g), none, none, none, none, none, none], ?_, ?_⟩
  · simp only [s_seq, s_set, s_next, s_cont, s_break, s_expr, s_retN, s_var, s_c, s_op, s_nil, s_cons, s_cb, s_call, s_tup, s_lst, s_sub, s_bm, s_aug, s_asg, s_sl, s_nopart, s_part, s_ret, s_ifs, s_if, s_test, s_not, s_and, s_or, s_andV, s_orV, s_notV, s_oI, s_add, s_mul, s_cmp, s_cmps, s_eq, s_eqs, s_eqb, s_lc, s_for, s_ex, s_pn, s_pc, s_disp, s_r1, s_r2, s_e, s_z, wipeD, s_setdN, s_tcount, s_xget, s_get, s_fld, s_meth, s_make, s_raise, s_raiseI, s_dget2, List.getElem?_cons_zero, List.getElem?_cons_succ, List.set_cons_zero, List.set_cons_succ, Option.some.injEq, exists_eq_left', exists_eq_left, startD, List.map_cons, List.map_nil, List.length_cons, List.length_nil, List.replicate_succ, List.replicate_zero, List.append_nil, List.cons_append, List.nil_append, D.bl.injEq, D.int.injEq, D.str.injEq, D.tupz.injEq, D.ref.injEq, decide_eq_true_eq, decide_eq_false_iff_not, Bool.bne_false, Bool.bne_true, Nat.reduceAdd, Nat.reduceSub, Nat.reduceLeDiff, reduceCtorEq, true_and, and_true, false_implies, true_implies, imp_self, Bool.false_eq_true, forall_const]
    refine ⟨fun _ => ⟨by omega, one sup_same hl hss hw0 hp0 fun ss2 hl2 hs2 => ?_⟩, fun _ => ?_⟩
    · refine ix_l rfl at0 ?_
      simp only [s_seq, s_set, s_next, s_cont, s_break, s_expr, s_retN, s_var, s_c, s_op, s_nil, s_cons, s_cb, s_call, s_tup, s_lst, s_sub, s_bm, s_aug, s_asg, s_sl, s_nopart, s_part, s_ret, s_ifs, s_if, s_test, s_not, s_and, s_or, s_andV, s_orV, s_notV, s_oI, s_add, s_mul, s_cmp, s_cmps, s_eq, s_eqs, s_eqb, s_lc, s_for, s_ex, s_pn, s_pc, s_disp, s_r1, s_r2, s_e, s_z, wipeD, s_setdN, s_tcount, s_xget, s_get, s_fld, s_meth, s_make, s_raise, s_raiseI, s_dget2, List.getElem?_cons_zero, List.getElem?_cons_succ, List.set_cons_zero, List.set_cons_succ, Option.some.injEq, exists_eq_left', exists_eq_left, startD, List.map_cons, List.map_nil, List.length_cons, List.length_nil, List.replicate_succ, List.replicate_zero, List.append_nil, List.cons_append, List.nil_append, D.bl.injEq, D.int.injEq, D.str.injEq, D.tupz.injEq, D.ref.injEq, decide_eq_true_eq, decide_eq_false_iff_not, Bool.bne_false, Bool.bne_true, Nat.reduceAdd, Nat.reduceSub, Nat.reduceLeDiff, reduceCtorEq, true_and, and_true, false_implies, true_implies, imp_self, Bool.false_eq_true, forall_const]
      have keep : ∃ ss_1 : List (List (List Str)), ss_1.length = m ∧ (∀ s ∈ ss_1, Small s) ∧ sup (sup S12 g (.lst (ss.map stD))) g (.lst (ss2.map stD)) g = some (.lst (ss_1.map stD)) := ⟨ss2, hl2, hs2, sup_same⟩
      refine ⟨fun _ => ⟨fun _ => ?_, fun _ => keep⟩, fun _ => keep⟩
      refine ix_l rfl (atI_nat (j := 1) rfl) (ix_l rfl (atI_nat (j := 2) rfl) ⟨by omega, ?_⟩)
      exact one sup_same hl2 hs2 (by omega) ht2 fun ss3 hl3 hs3 => ⟨ss3, hl3, hs3, sup_same⟩
    · exact ⟨ss, hl, hss, sup_same⟩
  rintro ρ S13 ⟨ss1, hl1, hs1, hS1, rfl⟩
  have gL : asL S13 (.ref g) = some (ss1.map stD) := by
    show (match S13 g with | some (.lst xs) => some xs | _ => none) = _
    rw [hS1]
  refine ⟨fun ρ S => S = S13 ∧ ∃ (d : D) (ss : List (List (List Str))), ss.length ≤ 100 ∧ (∀ s ∈ ss, Small s) ∧ asL S13 d = some (ss.map stD) ∧ (∀ p S', Fr S13 S' p (resR ss) → asL S' d = some (ss.map stD) ∧ ∀ (as : List Addr) (S'' : Store), (∀ b ∈ as, S13 b = none) → (∀ b, b ∉ as → S'' b = S' b) → asL S'' d = some (ss.map stD)) ∧ ρ = [some (.scr ns), some (.ref a), some (.int spoil), some (.int way), some (.int place), some (.int which), some (.lst [.int t0, .int t1, .int t2]), some (.int m), some (.lst (iL shape)), some (.lst (sL pool)), some d, none, none, none, none, none, none], ?_, ?_⟩
  · have old : ∃ (d : D) (ss : List (List (List Str))), ss.length ≤ 100 ∧ (∀ s ∈ ss, Small s) ∧ asL S13 d = some (ss.map stD) ∧ (∀ p S', Fr S13 S' p (resR ss) → asL S' d = some (ss.map stD) ∧ ∀ (as : List Addr) (S'' : Store), (∀ b ∈ as, S13 b = none) → (∀ b, b ∉ as → S'' b = S' b) → asL S'' d = some (ss.map stD)) ∧ some (D.ref g) = some d := by
      refine ⟨.ref g, ss1, by omega, hs1, gL, fun p S' ⟨as, f1, f2, f3, f4, f5, f6, f7⟩ => ?_, rfl⟩
      have ne : ∀ {b}, S13 b = none → g ≠ b := fun {b} h e => by rw [← e, hS1] at h; cases h
      have e1 : S' g = some (.lst (ss1.map stD)) := by
        rw [f7 g (ne f3) fun hm => ne (f4 g hm) rfl]
        exact hS1
      refine ⟨by show (match S' g with | some (.lst xs) => some xs | _ => none) = _; rw [e1], fun as' S'' h1 h2 => ?_⟩
      have e2 : S'' g = some (.lst (ss1.map stD)) := by
        rw [h2 g fun hm => ne (h1 g hm) rfl]
        exact e1
      show (match S'' g with | some (.lst xs) => some xs | _ => none) = _
      rw [e2]
    obtain ⟨d0, ss0, o1, o2, o3, o4, o5⟩ := old
    cases o5
    simp only [s_seq, s_set, s_next, s_cont, s_break, s_expr, s_retN, s_var, s_c, s_op, s_nil, s_cons, s_cb, s_call, s_tup, s_lst, s_sub, s_bm, s_aug, s_asg, s_sl, s_nopart, s_part, s_ret, s_ifs, s_if, s_test, s_not, s_and, s_or, s_andV, s_orV, s_notV, s_oI, s_add, s_mul, s_cmp, s_cmps, s_eq, s_eqs, s_eqb, s_lc, s_for, s_ex, s_pn, s_pc, s_disp, s_r1, s_r2, s_e, s_z, wipeD, s_setdN, s_tcount, s_xget, s_get, s_fld, s_meth, s_make, s_raise, s_raiseI, s_dget2, List.getElem?_cons_zero, List.getElem?_cons_succ, List.set_cons_zero, List.set_cons_succ, Option.some.injEq, exists_eq_left', exists_eq_left, startD, List.map_cons, List.map_nil, List.length_cons, List.length_nil, List.replicate_succ, List.replicate_zero, List.append_nil, List.cons_append, List.nil_append, D.bl.injEq, D.int.injEq, D.str.injEq, D.tupz.injEq, D.ref.injEq, decide_eq_true_eq, decide_eq_false_iff_not, Bool.bne_false, Bool.bne_true, Nat.reduceAdd, Nat.reduceSub, Nat.reduceLeDiff, reduceCtorEq, true_and, and_true, false_implies, true_implies, imp_self, Bool.false_eq_true, forall_const]
    refine ⟨fun _ => ⟨fun _ => ⟨by decide, .inl ?_⟩, fun _ => ⟨.ref g, ss0, o1, o2, o3, o4, rfl⟩⟩, fun _ => ⟨.ref g, ss0, o1, o2, o3, o4, rfl⟩⟩
    exact ⟨rfl, .lst [], [], by decide, (fun s hm => nomatch hm), rfl, fun p S' _ => ⟨rfl, fun _ _ _ _ => rfl⟩, rfl⟩
  rintro ρ S14 ⟨rfl, d, ss, hl, hss, hd, hdk, rfl⟩
  clear small_set one
  simp only [s_seq, s_set, s_next, s_cont, s_break, s_expr, s_retN, s_var, s_c, s_op, s_nil, s_cons, s_cb, s_call, s_tup, s_lst, s_sub, s_bm, s_aug, s_asg, s_sl, s_nopart, s_part, s_ret, s_ifs, s_if, s_test, s_not, s_and, s_or, s_andV, s_orV, s_notV, s_oI, s_add, s_mul, s_cmp, s_cmps, s_eq, s_eqs, s_eqb, s_lc, s_for, s_ex, s_pn, s_pc, s_disp, s_r1, s_r2, s_e, s_z, wipeD, s_setdN, s_tcount, s_xget, s_get, s_fld, s_meth, s_make, s_raise, s_raiseI, s_dget2, List.getElem?_cons_zero, List.getElem?_cons_succ, List.set_cons_zero, List.set_cons_succ, Option.some.injEq, exists_eq_left', exists_eq_left, startD, List.map_cons, List.map_nil, List.length_cons, List.length_nil, List.replicate_succ, List.replicate_zero, List.append_nil, List.cons_append, List.nil_append, D.bl.injEq, D.int.injEq, D.str.injEq, D.tupz.injEq, D.ref.injEq, decide_eq_true_eq, decide_eq_false_iff_not, Bool.bne_false, Bool.bne_true, Nat.reduceAdd, Nat.reduceSub, Nat.reduceLeDiff, reduceCtorEq, true_and, and_true, false_implies, true_implies, imp_self, Bool.false_eq_true, forall_const]
  refine ⟨false, wi_l ?_⟩
  simp only [s_seq, s_set, s_next, s_cont, s_break, s_expr, s_retN, s_var, s_c, s_op, s_nil, s_cons, s_cb, s_call, s_tup, s_lst, s_sub, s_bm, s_aug, s_asg, s_sl, s_nopart, s_part, s_ret, s_ifs, s_if, s_test, s_not, s_and, s_or, s_andV, s_orV, s_notV, s_oI, s_add, s_mul, s_cmp, s_cmps, s_eq, s_eqs, s_eqb, s_lc, s_for, s_ex, s_pn, s_pc, s_disp, s_r1, s_r2, s_e, s_z, wipeD, s_setdN, s_tcount, s_xget, s_get, s_fld, s_meth, s_make, s_raise, s_raiseI, s_dget2, List.getElem?_cons_zero, List.getElem?_cons_succ, List.set_cons_zero, List.set_cons_succ, Option.some.injEq, exists_eq_left', exists_eq_left, startD, List.map_cons, List.map_nil, List.length_cons, List.length_nil, List.replicate_succ, List.replicate_zero, List.append_nil, List.cons_append, List.nil_append, D.bl.injEq, D.int.injEq, D.str.injEq, D.tupz.injEq, D.ref.injEq, decide_eq_true_eq, decide_eq_false_iff_not, Bool.bne_false, Bool.bne_true, Nat.reduceAdd, Nat.reduceSub, Nat.reduceLeDiff, reduceCtorEq, true_and, and_true, false_implies, true_implies, imp_self, Bool.false_eq_true, forall_const]
  refine ⟨_, hd, fun hz => ?_⟩
  refine lc_map id (fun b us hb => kp_new hd hb) (fun x hx b us hb => ⟨_, rfl, fun Q' hQ => ?_⟩) hz ?_
  · simp only [s_seq, s_set, s_next, s_cont, s_break, s_expr, s_retN, s_var, s_c, s_op, s_nil, s_cons, s_cb, s_call, s_tup, s_lst, s_sub, s_bm, s_aug, s_asg, s_sl, s_nopart, s_part, s_ret, s_ifs, s_if, s_test, s_not, s_and, s_or, s_andV, s_orV, s_notV, s_oI, s_add, s_mul, s_cmp, s_cmps, s_eq, s_eqs, s_eqb, s_lc, s_for, s_ex, s_pn, s_pc, s_disp, s_r1, s_r2, s_e, s_z, wipeD, s_setdN, s_tcount, s_xget, s_get, s_fld, s_meth, s_make, s_raise, s_raiseI, s_dget2, List.getElem?_cons_zero, List.getElem?_cons_succ, List.set_cons_zero, List.set_cons_succ, Option.some.injEq, exists_eq_left', exists_eq_left, startD, List.map_cons, List.map_nil, List.length_cons, List.length_nil, List.replicate_succ, List.replicate_zero, List.append_nil, List.cons_append, List.nil_append, D.bl.injEq, D.int.injEq, D.str.injEq, D.tupz.injEq, D.ref.injEq, decide_eq_true_eq, decide_eq_false_iff_not, Bool.bne_false, Bool.bne_true, Nat.reduceAdd, Nat.reduceSub, Nat.reduceLeDiff, reduceCtorEq, true_and, and_true, false_implies, true_implies, imp_self, Bool.false_eq_true, forall_const]
    obtain ⟨s, _, rfl⟩ := List.mem_map.mp hx
    refine ⟨_, s.map sL, rfl, st_LL, ?_⟩
    rw [List.map_map]
    exact hQ
  rw [List.map_id]
  dsimp only [newL]
  refine ⟨ss, rfl, hl, hss, ?_⟩
  cases ss with
  | nil =>
    unfold answer
    dsimp only
    refine eq_given hss hd ⟨false, rfl, fun h => (nomatch h), fun _ => ⟨by decide, .inl (nil_given hss hd ⟨true, rfl, fun _ => ?_, fun h => (nomatch h)⟩)⟩⟩
    refine ⟨by decide, .inl ?_⟩
    refine ⟨by decide, ?_⟩
    refine eq_tree rfl ?_ ?_ ?_
    · decide +kernel
    · decide +kernel
    · exact ⟨_, Sub.refl, .inl rfl⟩
  | cons s0 sr =>
    have shp_eq : ((s0 :: sr).map stD).map (fun x => D.lst (((asL S14 x).getD []).map fun r => .int (((asL S14 r).getD []).length : Nat))) = ((s0 :: sr).map shp).map fun s => D.lst (iL s) := by
      rw [List.map_map, List.map_map]
      refine List.map_congr_left fun s _ => congrArg D.lst ?_
      show (rowsD s).map (fun r => D.int (((asL S14 r).getD []).length : Nat)) = (shp s).map fun (n : Nat) => D.int (n : Int)
      rw [List.map_map, List.map_map]
      refine List.map_congr_left fun r _ => ?_
      show D.int ((sL r).length : Nat) = D.int (r.length : Nat)
      rw [List.length_map]
    have un : ∀ {S' : Store} {Q' : VQ}, (match bad ((s0 :: sr).map shp) with | some r => Q' (.int (r : Int)) S' | none => Q' .non S') → A_law_unlike K [.lst (((s0 :: sr).map shp).map fun s => D.lst (iL s))] S' Q' fun c p S' => False := fun {S' Q'} h => by
      refine ⟨(s0 :: sr).map shp, rfl, (by intro z; cases z), by rw [List.length_map]; exact hl, fun s hs => ?_, h⟩
      obtain ⟨t, ht, rfl⟩ := List.mem_map.mp hs
      rw [List.length_map]
      exact (hss t ht).1
    have el : ∀ {x : D} {b : Addr} {us : List V} {S' : Store} {Q' : VQ}, x ∈ (s0 :: sr).map stD → Q' (D.lst (((asL S14 x).getD []).map fun r => .int (((asL S14 r).getD []).length : Nat))) S' → A_law_shape_of K [x] S' Q' fun c p S' => False := fun {x b us S' Q'} hx hQ => by
      obtain ⟨s, _, rfl⟩ := List.mem_map.mp hx
      refine ⟨_, s.map sL, rfl, st_LL, ?_⟩
      rw [shp_sL]
      have e : (((asL S14 (stD s)).getD []).map fun r => D.int (((asL S14 r).getD []).length : Nat)) = iL (shp s) := by
        show (rowsD s).map (fun r => D.int (((asL S14 r).getD []).length : Nat)) = (shp s).map fun (n : Nat) => D.int (n : Int)
        rw [List.map_map, List.map_map]
        refine List.map_congr_left fun r _ => ?_
        show D.int ((sL r).length : Nat) = D.int (r.length : Nat)
        rw [List.length_map]
      rw [e] at hQ
      exact hQ
    unfold answer
    dsimp only
    cases hb : bad ((s0 :: sr).map shp) with
    | some r =>
      dsimp only
      refine eq_given hss hd ⟨false, rfl, fun h => (nomatch h), fun _ => ⟨by decide, .inl (nil_given hss hd ⟨false, rfl, fun h => (nomatch h), fun _ => ?_⟩)⟩⟩
      refine ⟨false, wi_l ?_⟩
      simp only [s_seq, s_set, s_next, s_cont, s_break, s_expr, s_retN, s_var, s_c, s_op, s_nil, s_cons, s_cb, s_call, s_tup, s_lst, s_sub, s_bm, s_aug, s_asg, s_sl, s_nopart, s_part, s_ret, s_ifs, s_if, s_test, s_not, s_and, s_or, s_andV, s_orV, s_notV, s_oI, s_add, s_mul, s_cmp, s_cmps, s_eq, s_eqs, s_eqb, s_lc, s_for, s_ex, s_pn, s_pc, s_disp, s_r1, s_r2, s_e, s_z, wipeD, s_setdN, s_tcount, s_xget, s_get, s_fld, s_meth, s_make, s_raise, s_raiseI, s_dget2, List.getElem?_cons_zero, List.getElem?_cons_succ, List.set_cons_zero, List.set_cons_succ, Option.some.injEq, exists_eq_left', exists_eq_left, startD, List.map_cons, List.map_nil, List.length_cons, List.length_nil, List.replicate_succ, List.replicate_zero, List.append_nil, List.cons_append, List.nil_append, D.bl.injEq, D.int.injEq, D.str.injEq, D.tupz.injEq, D.ref.injEq, decide_eq_true_eq, decide_eq_false_iff_not, Bool.bne_false, Bool.bne_true, Nat.reduceAdd, Nat.reduceSub, Nat.reduceLeDiff, reduceCtorEq, true_and, and_true, false_implies, true_implies, imp_self, Bool.false_eq_true, forall_const]
      refine ⟨_, hd, fun hz2 => ?_⟩
      refine lc_map (fun x => D.lst (((asL S14 x).getD []).map fun r => .int (((asL S14 r).getD []).length : Nat))) (fun b us hb => kp_new hd hb) (fun x hx b us hb => ⟨_, rfl, fun Q' hQ => ?_⟩) hz2 ?_
      · simp only [s_seq, s_set, s_next, s_cont, s_break, s_expr, s_retN, s_var, s_c, s_op, s_nil, s_cons, s_cb, s_call, s_tup, s_lst, s_sub, s_bm, s_aug, s_asg, s_sl, s_nopart, s_part, s_ret, s_ifs, s_if, s_test, s_not, s_and, s_or, s_andV, s_orV, s_notV, s_oI, s_add, s_mul, s_cmp, s_cmps, s_eq, s_eqs, s_eqb, s_lc, s_for, s_ex, s_pn, s_pc, s_disp, s_r1, s_r2, s_e, s_z, wipeD, s_setdN, s_tcount, s_xget, s_get, s_fld, s_meth, s_make, s_raise, s_raiseI, s_dget2, List.getElem?_cons_zero, List.getElem?_cons_succ, List.set_cons_zero, List.set_cons_succ, Option.some.injEq, exists_eq_left', exists_eq_left, startD, List.map_cons, List.map_nil, List.length_cons, List.length_nil, List.replicate_succ, List.replicate_zero, List.append_nil, List.cons_append, List.nil_append, D.bl.injEq, D.int.injEq, D.str.injEq, D.tupz.injEq, D.ref.injEq, decide_eq_true_eq, decide_eq_false_iff_not, Bool.bne_false, Bool.bne_true, Nat.reduceAdd, Nat.reduceSub, Nat.reduceLeDiff, reduceCtorEq, true_and, and_true, false_implies, true_implies, imp_self, Bool.false_eq_true, forall_const]
        exact el (b := b) (us := us) hx hQ
      rw [shp_eq]
      dsimp only [newL]
      refine un ?_
      rw [hb]
      dsimp only
      refine ⟨true, rfl, fun _ => ?_, fun h => (nomatch h)⟩
      refine ⟨by show 8 ≤ sizeLine; decide, .inl ?_⟩
      refine ⟨by decide, ?_⟩
      refine eq_tree rfl ?_ ?_ ?_
      · have : PyData.strOk (Str.ofString "no") = true := by decide +kernel
        simp [isT, isTs, bls, this]
      · simp [dpD, dpDs, bls]
      · exact ⟨_, Sub.refl, .inl rfl⟩
    | none =>
      dsimp only
      intro p S' hf
      obtain ⟨hd1, hd2⟩ := hdk p S' hf
      refine eq_given hss hd1 ⟨false, rfl, fun h => (nomatch h), fun _ => ⟨by decide, .inl (nil_given hss hd1 ⟨false, rfl, fun h => (nomatch h), fun _ => ?_⟩)⟩⟩
      refine ⟨false, wi_l ?_⟩
      simp only [s_seq, s_set, s_next, s_cont, s_break, s_expr, s_retN, s_var, s_c, s_op, s_nil, s_cons, s_cb, s_call, s_tup, s_lst, s_sub, s_bm, s_aug, s_asg, s_sl, s_nopart, s_part, s_ret, s_ifs, s_if, s_test, s_not, s_and, s_or, s_andV, s_orV, s_notV, s_oI, s_add, s_mul, s_cmp, s_cmps, s_eq, s_eqs, s_eqb, s_lc, s_for, s_ex, s_pn, s_pc, s_disp, s_r1, s_r2, s_e, s_z, wipeD, s_setdN, s_tcount, s_xget, s_get, s_fld, s_meth, s_make, s_raise, s_raiseI, s_dget2, List.getElem?_cons_zero, List.getElem?_cons_succ, List.set_cons_zero, List.set_cons_succ, Option.some.injEq, exists_eq_left', exists_eq_left, startD, List.map_cons, List.map_nil, List.length_cons, List.length_nil, List.replicate_succ, List.replicate_zero, List.append_nil, List.cons_append, List.nil_append, D.bl.injEq, D.int.injEq, D.str.injEq, D.tupz.injEq, D.ref.injEq, decide_eq_true_eq, decide_eq_false_iff_not, Bool.bne_false, Bool.bne_true, Nat.reduceAdd, Nat.reduceSub, Nat.reduceLeDiff, reduceCtorEq, true_and, and_true, false_implies, true_implies, imp_self, Bool.false_eq_true, forall_const]
      refine ⟨_, hd1, fun hz2 => ?_⟩
      refine lc_map (fun x => D.lst (((asL S14 x).getD []).map fun r => .int (((asL S14 r).getD []).length : Nat))) (fun b us hb => kp_new hd1 hb) (fun x hx b us hb => ⟨_, rfl, fun Q' hQ => ?_⟩) hz2 ?_
      · simp only [s_seq, s_set, s_next, s_cont, s_break, s_expr, s_retN, s_var, s_c, s_op, s_nil, s_cons, s_cb, s_call, s_tup, s_lst, s_sub, s_bm, s_aug, s_asg, s_sl, s_nopart, s_part, s_ret, s_ifs, s_if, s_test, s_not, s_and, s_or, s_andV, s_orV, s_notV, s_oI, s_add, s_mul, s_cmp, s_cmps, s_eq, s_eqs, s_eqb, s_lc, s_for, s_ex, s_pn, s_pc, s_disp, s_r1, s_r2, s_e, s_z, wipeD, s_setdN, s_tcount, s_xget, s_get, s_fld, s_meth, s_make, s_raise, s_raiseI, s_dget2, List.getElem?_cons_zero, List.getElem?_cons_succ, List.set_cons_zero, List.set_cons_succ, Option.some.injEq, exists_eq_left', exists_eq_left, startD, List.map_cons, List.map_nil, List.length_cons, List.length_nil, List.replicate_succ, List.replicate_zero, List.append_nil, List.cons_append, List.nil_append, D.bl.injEq, D.int.injEq, D.str.injEq, D.tupz.injEq, D.ref.injEq, decide_eq_true_eq, decide_eq_false_iff_not, Bool.bne_false, Bool.bne_true, Nat.reduceAdd, Nat.reduceSub, Nat.reduceLeDiff, reduceCtorEq, true_and, and_true, false_implies, true_implies, imp_self, Bool.false_eq_true, forall_const]
        exact el (b := b) (us := us) hx hQ
      rw [shp_eq]
      dsimp only [newL]
      refine un ?_
      rw [hb]
      dsimp only
      refine ⟨false, rfl, fun h => (nomatch h), fun _ => ?_⟩
      refine ix_t rfl at0 ?_
      rw [s_eqs]
      refine ⟨false, by simp, fun h => (nomatch h), fun _ => ix_t rfl (atI_nat (j := 1) rfl) ?_⟩
      obtain ⟨as, f1, f2, f3, f4, f5, f6, f7⟩ := id hf
      -- the rows that were told
      have hs0 : Small s0 := hss s0 List.mem_cons_self
      have hsh : ∀ s ∈ s0 :: sr, shp s = shp s0 := fun s hm => by
        have := bad_all hb (shp s) (List.mem_map_of_mem hm)
        rw [this]
        rfl
      have eI : resI (s0 :: sr) = opn [] (wsOf (cols (s0 :: sr) s0.flatten.length)) (cols (s0 :: sr) s0.flatten.length) := rfl
      have hcl : (cols (s0 :: sr) s0.flatten.length).length = s0.flatten.length := by unfold cols; rw [List.length_map, List.length_range]
      have hIl : (resI (s0 :: sr)).length = s0.flatten.length := by rw [eI, opn_length, hcl]
      have hsum : (shp s0).sum = (resI (s0 :: sr)).length := by rw [hIl, List.length_flatten]
      have eR : resR (s0 :: sr) = cutL (resI (s0 :: sr)) (shp s0) := rfl
      have hfl : (resR (s0 :: sr)).flatten = resI (s0 :: sr) := by rw [eR]; exact cutL_flat hsum
      have hRs : shp (resR (s0 :: sr)) = shp s0 := by rw [eR]; exact cutL_shape (Nat.le_of_eq hsum)
      have hf0 := hs0.flat
      have colok : ∀ c ∈ cols (s0 :: sr) s0.flatten.length, ∀ w ∈ c, sOk w := fun c hc => by
        unfold cols at hc
        obtain ⟨i, hi, rfl⟩ := List.mem_map.mp hc
        exact colOf_ok hss (fun s hm => flat_shp (hsh s hm)) (List.mem_range.mp hi)
      refine ⟨_, d, resR (s0 :: sr), s0 :: sr, rfl, hd1, ⟨as.map .ref, ?_, ?_⟩, by rw [hfl, hIl]; omega, (by intro z; cases z), hl, fun s hm => ⟨hss s hm, by rw [hRs]; exact hsh s hm⟩, ?_, true, rfl, fun h => (nomatch h), fun _ => ?_⟩
      · show (match S' p with | some (.lst xs) => some xs | _ => none) = _
        rw [f5]
      · refine paired_of (by rw [List.length_map]; exact Paired.length f6) fun i x r hx hr => ?_
        rw [List.getElem?_map] at hx
        obtain ⟨b, hb', rfl⟩ := Option.map_eq_some_iff.mp hx
        obtain ⟨r', hr', h'⟩ := L2.paired_get f6 hb'
        rw [hr] at hr'
        cases hr'
        show (match S' b with | some (.lst xs) => some xs | _ => none) = _
        rw [h']
      · rw [hfl, hIl, eI]
        exact rgt _
      · refine ix_t rfl (atI_nat (j := 1) rfl) ?_
        refine ⟨p, as, resR (s0 :: sr), rfl, f1, f2, f5, f6, fun r hr => ⟨?_, ?_⟩, fun S'' hS'' => ⟨true, rfl, fun _ => eq_given hss (hd2 as S'' f4 hS'') ⟨_, Sub.refl, .inl rfl⟩, fun h => (nomatch h)⟩⟩
        · have : r.length ∈ shp s0 := by rw [← hRs]; exact List.mem_map_of_mem hr
          obtain ⟨t, ht, e⟩ := List.mem_map.mp this
          rw [← e]
          exact hs0.2.1 t ht
        · rw [List.all_eq_true]
          intro x hx
          have : x ∈ resI (s0 :: sr) := by rw [← hfl]; exact List.mem_flatten.mpr ⟨r, hr, hx⟩
          rw [eI] at this
          exact List.all_eq_true.mp (opn_ok _ _ colok) x this
end
end N42
set_option Elab.async false
set_option linter.all false
set_option maxRecDepth 100000
set_option maxHeartbeats 4000000
namespace N42
open PySem PySem.Spec PyProof.Rows L2 KR
section
variable {K : Kx} {mg : Str → Option Value} {base : Heap}
theorem ok_law_begin_fn (T : TX K mg base) {fd} (F : FunD K.K d_law_begin.name d_law_begin.qual d_law_begin.params d_law_begin.body d_law_begin.scope (d_law_begin.dvs K.K) (d_law_begin.kws K.K) (He.fAd K.K d_law_begin.at_) fd) : FnOk K.P K.w K.K mg base (L2.CX K.P K.w) 1 (He.fAd K.K ("_law_begin", none)) fd ["_law_script"] (toSp K (A_law_begin K)) :=
  fn_ok F sc_law_begin (fun _ _ _ _ h => l_law_begin h) fun cdv A0 outer s H E hr ds S Qa Ea ok h hx => ⟨_, b_law_begin T  cdv A0 outer s H E hr S H _ hx, p_law_begin T.c h⟩
theorem ok_law_begin (T : TX K mg base) : OkF K mg base 1 ("_law_begin", none) ["_law_script"] [] (A_law_begin K) := by
  obtain ⟨fd, F⟩ := T.c.def_ 0 (d := d_law_begin) rfl
  exact ⟨⟨fd, [], [], ok_law_begin_fn T F, FunD.bindsN F fun _ _ _ _ _ _ us hl => match us, hl with | [_], _ => rfl, .nil, fun _ _ => Rps.nil⟩, F.kp⟩
theorem ok_law_more_fn (T : TX K mg base) {fd} (F : FunD K.K d_law_more.name d_law_more.qual d_law_more.params d_law_more.body d_law_more.scope (d_law_more.dvs K.K) (d_law_more.kws K.K) (He.fAd K.K d_law_more.at_) fd) : FnOk K.P K.w K.K mg base (L2.CX K.P K.w) 1 (He.fAd K.K ("_law_more", none)) fd ["_law_state"] (toSp K (A_law_more K)) :=
  fn_ok F sc_law_more (fun _ _ _ _ h => l_law_more h) fun cdv A0 outer s H E hr ds S Qa Ea ok h hx => ⟨_, b_law_more T  cdv A0 outer s H E hr S H _ hx, p_law_more T.c h⟩
theorem ok_law_more (T : TX K mg base) : OkF K mg base 1 ("_law_more", none) ["_law_state"] [] (A_law_more K) := by
  obtain ⟨fd, F⟩ := T.c.def_ 1 (d := d_law_more) rfl
  exact ⟨⟨fd, [], [], ok_law_more_fn T F, FunD.bindsN F fun _ _ _ _ _ _ us hl => match us, hl with | [_], _ => rfl, .nil, fun _ _ => Rps.nil⟩, F.kp⟩
theorem ok_law_next_fn (T : TX K mg base) {fd} (F : FunD K.K d_law_next.name d_law_next.qual d_law_next.params d_law_next.body d_law_next.scope (d_law_next.dvs K.K) (d_law_next.kws K.K) (He.fAd K.K d_law_next.at_) fd) : FnOk K.P K.w K.K mg base (L2.CX K.P K.w) 2 (He.fAd K.K ("_law_next", none)) fd ["_law_state", "_law_many"] (toSp K (A_law_next K)) :=
  fn_ok F sc_law_next (fun _ _ _ _ h => l_law_next h) fun cdv A0 outer s H E hr ds S Qa Ea ok h hx => ⟨_, b_law_next T (ok_law_more T) cdv A0 outer s H E hr S H _ hx, p_law_next T.c h⟩
theorem ok_law_next (T : TX K mg base) : OkF K mg base 2 ("_law_next", none) ["_law_state", "_law_many"] [] (A_law_next K) := by
  obtain ⟨fd, F⟩ := T.c.def_ 2 (d := d_law_next) rfl
  exact ⟨⟨fd, [], [], ok_law_next_fn T F, FunD.bindsN F fun _ _ _ _ _ _ us hl => match us, hl with | [_, _], _ => rfl, .nil, fun _ _ => Rps.nil⟩, F.kp⟩
theorem ok_law_pick_fn (T : TX K mg base) {fd} (F : FunD K.K d_law_pick.name d_law_pick.qual d_law_pick.params d_law_pick.body d_law_pick.scope (d_law_pick.dvs K.K) (d_law_pick.kws K.K) (He.fAd K.K d_law_pick.at_) fd) : FnOk K.P K.w K.K mg base (L2.CX K.P K.w) 3 (He.fAd K.K ("_law_pick", none)) fd ["_law_state", "_law_some"] (toSp K (A_law_pick K)) :=
  fn_ok F sc_law_pick (fun _ _ _ _ h => l_law_pick h) fun cdv A0 outer s H E hr ds S Qa Ea ok h hx => ⟨_, b_law_pick T (ok_law_next T) cdv A0 outer s H E hr S H _ hx, p_law_pick T.c h⟩
theorem ok_law_pick (T : TX K mg base) : OkF K mg base 3 ("_law_pick", none) ["_law_state", "_law_some"] [] (A_law_pick K) := by
  obtain ⟨fd, F⟩ := T.c.def_ 3 (d := d_law_pick) rfl
  exact ⟨⟨fd, [], [], ok_law_pick_fn T F, FunD.bindsN F fun _ _ _ _ _ _ us hl => match us, hl with | [_, _], _ => rfl, .nil, fun _ _ => Rps.nil⟩, F.kp⟩
theorem ok_law_shape_fn (T : TX K mg base) {fd} (F : FunD K.K d_law_shape.name d_law_shape.qual d_law_shape.params d_law_shape.body d_law_shape.scope (d_law_shape.dvs K.K) (d_law_shape.kws K.K) (He.fAd K.K d_law_shape.at_) fd) : FnOk K.P K.w K.K mg base (L2.CX K.P K.w) 3 (He.fAd K.K ("_law_shape", none)) fd ["_law_state"] (toSp K (A_law_shape K)) :=
  fn_ok F sc_law_shape (fun _ _ _ _ h => l_law_shape h) fun cdv A0 outer s H E hr ds S Qa Ea ok h hx => ⟨_, b_law_shape T (ok_law_next T) cdv A0 outer s H E hr S H _ hx, p_law_shape T.c h⟩
theorem ok_law_shape (T : TX K mg base) : OkF K mg base 3 ("_law_shape", none) ["_law_state"] [] (A_law_shape K) := by
  obtain ⟨fd, F⟩ := T.c.def_ 4 (d := d_law_shape) rfl
  exact ⟨⟨fd, [], [], ok_law_shape_fn T F, FunD.bindsN F fun _ _ _ _ _ _ us hl => match us, hl with | [_], _ => rfl, .nil, fun _ _ => Rps.nil⟩, F.kp⟩
theorem ok_law_word_fn (T : TX K mg base) {fd} (F : FunD K.K d_law_word.name d_law_word.qual d_law_word.params d_law_word.body d_law_word.scope (d_law_word.dvs K.K) (d_law_word.kws K.K) (He.fAd K.K d_law_word.at_) fd) : FnOk K.P K.w K.K mg base (L2.CX K.P K.w) 4 (He.fAd K.K ("_law_word", none)) fd ["_law_state"] (toSp K (A_law_word K)) :=
  fn_ok F sc_law_word (fun _ _ _ _ h => l_law_word h) fun cdv A0 outer s H E hr ds S Qa Ea ok h hx => ⟨_, b_law_word T (ok_law_next T) (ok_law_pick T) cdv A0 outer s H E hr S H _ hx, p_law_word T.c h⟩
theorem ok_law_word (T : TX K mg base) : OkF K mg base 4 ("_law_word", none) ["_law_state"] [] (A_law_word K) := by
  obtain ⟨fd, F⟩ := T.c.def_ 5 (d := d_law_word) rfl
  exact ⟨⟨fd, [], [], ok_law_word_fn T F, FunD.bindsN F fun _ _ _ _ _ _ us hl => match us, hl with | [_], _ => rfl, .nil, fun _ _ => Rps.nil⟩, F.kp⟩
theorem ok_law_pool_fn (T : TX K mg base) {fd} (F : FunD K.K d_law_pool.name d_law_pool.qual d_law_pool.params d_law_pool.body d_law_pool.scope (d_law_pool.dvs K.K) (d_law_pool.kws K.K) (He.fAd K.K d_law_pool.at_) fd) : FnOk K.P K.w K.K mg base (L2.CX K.P K.w) 5 (He.fAd K.K ("_law_pool", none)) fd ["_law_state"] (toSp K (A_law_pool K)) :=
  fn_ok F sc_law_pool (fun _ _ _ _ h => l_law_pool h) fun cdv A0 outer s H E hr ds S Qa Ea ok h hx => ⟨_, b_law_pool T (ok_law_next T) (ok_law_word T) cdv A0 outer s H E hr S H _ hx, p_law_pool T.c h⟩
theorem ok_law_pool (T : TX K mg base) : OkF K mg base 5 ("_law_pool", none) ["_law_state"] [] (A_law_pool K) := by
  obtain ⟨fd, F⟩ := T.c.def_ 6 (d := d_law_pool) rfl
  exact ⟨⟨fd, [], [], ok_law_pool_fn T F, FunD.bindsN F fun _ _ _ _ _ _ us hl => match us, hl with | [_], _ => rfl, .nil, fun _ _ => Rps.nil⟩, F.kp⟩
theorem ok_Shape_init (T : TX K mg base) : OkI K mg base 1 ("Shape", some "__init__") "row" := by
  obtain ⟨fd, F⟩ := T.c.def_ 7 (d := d_Shape_init) rfl
  have nd := sc_Shape_init.nd
  exact ⟨⟨fd, ["self", "row"], fn_init F sc_Shape_init rfl fun cdv A0 outer s H E => pss_one (ps_ost (f := "row") (pv 0) (pv 1)), FunD.bindsN F fun _ _ _ _ _ _ us hl => match us, hl with | [_, _], _ => rfl⟩⟩
theorem ok_need_shape_fn (T : TX K mg base) {fd} (F : FunD K.K d_need_shape.name d_need_shape.qual d_need_shape.params d_need_shape.body d_need_shape.scope (d_need_shape.dvs K.K) (d_need_shape.kws K.K) (He.fAd K.K d_need_shape.at_) fd) : FnOk K.P K.w K.K mg base (L2.CX K.P K.w) 3 (He.fAd K.K ("need_shape", none)) fd ["forms"] (toSp K (A_need_shape K)) :=
  fn_ok F sc_need_shape (fun _ _ _ _ h => l_need_shape h) fun cdv A0 outer s H E hr ds S Qa Ea ok h hx => ⟨_, b_need_shape T (ok_Shape_init T) cdv A0 outer s H E hr S H _ hx, p_need_shape T.c h⟩
theorem ok_need_shape (T : TX K mg base) : OkF K mg base 3 ("need_shape", none) ["forms"] [] (A_need_shape K) := by
  obtain ⟨fd, F⟩ := T.c.def_ 8 (d := d_need_shape) rfl
  exact ⟨⟨fd, [], [], ok_need_shape_fn T F, FunD.bindsN F fun _ _ _ _ _ _ us hl => match us, hl with | [_], _ => rfl, .nil, fun _ _ => Rps.nil⟩, F.kp⟩
theorem ok_in_rows_fn (T : TX K mg base) {fd} (F : FunD K.K d_in_rows.name d_in_rows.qual d_in_rows.params d_in_rows.body d_in_rows.scope (d_in_rows.dvs K.K) (d_in_rows.kws K.K) (He.fAd K.K d_in_rows.at_) fd) : FnOk K.P K.w K.K mg base (L2.CX K.P K.w) 1 (He.fAd K.K ("in_rows", none)) fd ["items", "like"] (toSp K (A_in_rows K)) :=
  fn_ok F sc_in_rows (fun _ _ _ _ h => l_in_rows h) fun cdv A0 outer s H E hr ds S Qa Ea ok h hx => ⟨_, b_in_rows T  cdv A0 outer s H E hr S H _ hx, p_in_rows T.c h⟩
theorem ok_in_rows (T : TX K mg base) : OkF K mg base 1 ("in_rows", none) ["items", "like"] [] (A_in_rows K) := by
  obtain ⟨fd, F⟩ := T.c.def_ 9 (d := d_in_rows) rfl
  exact ⟨⟨fd, [], [], ok_in_rows_fn T F, FunD.bindsN F fun _ _ _ _ _ _ us hl => match us, hl with | [_, _], _ => rfl, .nil, fun _ _ => Rps.nil⟩, F.kp⟩
theorem ok_items_of_fn (T : TX K mg base) {fd} (F : FunD K.K d_items_of.name d_items_of.qual d_items_of.params d_items_of.body d_items_of.scope (d_items_of.dvs K.K) (d_items_of.kws K.K) (He.fAd K.K d_items_of.at_) fd) : FnOk K.P K.w K.K mg base (L2.CX K.P K.w) 1 (He.fAd K.K ("items_of", none)) fd ["rows"] (toSp K (A_items_of K)) :=
  fn_ok F sc_items_of (fun _ _ _ _ h => l_items_of h) fun cdv A0 outer s H E hr ds S Qa Ea ok h hx => ⟨_, b_items_of T  cdv A0 outer s H E hr S H _ hx, p_items_of T.c h⟩
theorem ok_items_of (T : TX K mg base) : OkF K mg base 1 ("items_of", none) ["rows"] [] (A_items_of K) := by
  obtain ⟨fd, F⟩ := T.c.def_ 10 (d := d_items_of) rfl
  exact ⟨⟨fd, [], [], ok_items_of_fn T F, FunD.bindsN F fun _ _ _ _ _ _ us hl => match us, hl with | [_], _ => rfl, .nil, fun _ _ => Rps.nil⟩, F.kp⟩
theorem ok_opened_fn (T : TX K mg base) {fd} (F : FunD K.K d_opened.name d_opened.qual d_opened.params d_opened.body d_opened.scope (d_opened.dvs K.K) (d_opened.kws K.K) (He.fAd K.K d_opened.at_) fd) : FnOk K.P K.w K.K mg base (L2.CX K.P K.w) 1 (He.fAd K.K ("opened", none)) fd ["words", "keys"] (toSp K (A_opened K)) :=
  fn_ok F sc_opened (fun _ _ _ _ h => l_opened h) fun cdv A0 outer s H E hr ds S Qa Ea ok h hx => ⟨_, b_opened T  cdv A0 outer s H E hr S H _ hx, p_opened T.c h⟩
theorem ok_opened (T : TX K mg base) : OkF K mg base 1 ("opened", none) ["words", "keys"] [] (A_opened K) := by
  obtain ⟨fd, F⟩ := T.c.def_ 11 (d := d_opened) rfl
  exact ⟨⟨fd, [], [], ok_opened_fn T F, FunD.bindsN F fun _ _ _ _ _ _ us hl => match us, hl with | [_, _], _ => rfl, .nil, fun _ _ => Rps.nil⟩, F.kp⟩
theorem ok_form_of_fn (T : TX K mg base) {fd} (F : FunD K.K d_form_of.name d_form_of.qual d_form_of.params d_form_of.body d_form_of.scope (d_form_of.dvs K.K) (d_form_of.kws K.K) (He.fAd K.K d_form_of.at_) fd) : FnOk K.P K.w K.K mg base (L2.CX K.P K.w) 4 (He.fAd K.K ("form_of", none)) fd ["stretches"] (toSp K (A_form_of K)) :=
  fn_ok F sc_form_of (fun _ _ _ _ h => l_form_of h) fun cdv A0 outer s H E hr ds S Qa Ea ok h hx => ⟨_, b_form_of T (ok_need_shape T) (ok_items_of T) (ok_in_rows T) (ok_opened T) cdv A0 outer s H E hr S H _ hx, p_form_of T.c h⟩
theorem ok_form_of (T : TX K mg base) : OkF K mg base 4 ("form_of", none) ["stretches"] [] (A_form_of K) := by
  obtain ⟨fd, F⟩ := T.c.def_ 12 (d := d_form_of) rfl
  exact ⟨⟨fd, [], [], ok_form_of_fn T F, FunD.bindsN F fun _ _ _ _ _ _ us hl => match us, hl with | [_], _ => rfl, .nil, fun _ _ => Rps.nil⟩, F.kp⟩
theorem ok_form_ofK (T : TX K mg base) : OkK K mg base 4 ("form_of", none) ["stretches"] (A_form_of K) := by
  obtain ⟨fd, F⟩ := T.c.def_ 12 (d := d_form_of) rfl
  exact ⟨⟨fd, ok_form_of_fn T F, kb_all F fun _ _ _ _ _ _ us hl => match us, hl with | [_], _ => rfl⟩, F.kp⟩
theorem ok_law_classes_fn (T : TX K mg base) {fd} (F : FunD K.K d_law_classes.name d_law_classes.qual d_law_classes.params d_law_classes.body d_law_classes.scope (d_law_classes.dvs K.K) (d_law_classes.kws K.K) (He.fAd K.K d_law_classes.at_) fd) : FnOk K.P K.w K.K mg base (L2.CX K.P K.w) 1 (He.fAd K.K ("_law_classes", none)) fd ["_law_error"] (toSp K (A_law_classes K)) :=
  fn_ok F sc_law_classes (fun _ _ _ _ h => l_law_classes h) fun cdv A0 outer s H E hr ds S Qa Ea ok h hx => ⟨_, b_law_classes T  cdv A0 outer s H E hr S H _ hx, p_law_classes T.c h⟩
theorem ok_law_classes (T : TX K mg base) : OkF K mg base 1 ("_law_classes", none) ["_law_error"] [] (A_law_classes K) := by
  obtain ⟨fd, F⟩ := T.c.def_ 13 (d := d_law_classes) rfl
  exact ⟨⟨fd, [], [], ok_law_classes_fn T F, FunD.bindsN F fun _ _ _ _ _ _ us hl => match us, hl with | [_], _ => rfl, .nil, fun _ _ => Rps.nil⟩, F.kp⟩
theorem ok_law_asked_fn (T : TX K mg base) {fd} (F : FunD K.K d_law_asked.name d_law_asked.qual d_law_asked.params d_law_asked.body d_law_asked.scope (d_law_asked.dvs K.K) (d_law_asked.kws K.K) (He.fAd K.K d_law_asked.at_) fd) : FnOk K.P K.w K.K mg base (L2.CX K.P K.w) 5 (He.fAd K.K ("_law_asked", none)) fd ["_law_given"] (toSp K (A_law_asked K)) :=
  fn_ok F sc_law_asked (fun _ _ _ _ h => l_law_asked h) fun cdv A0 outer s H E hr ds S Qa Ea ok h hx => ⟨_, b_law_asked T (ok_law_classes T) (ok_form_ofK T) cdv A0 outer s H E hr S H _ hx, p_law_asked T.c h⟩
theorem ok_law_asked (T : TX K mg base) : OkF K mg base 5 ("_law_asked", none) ["_law_given"] [] (A_law_asked K) := by
  obtain ⟨fd, F⟩ := T.c.def_ 14 (d := d_law_asked) rfl
  exact ⟨⟨fd, [], [], ok_law_asked_fn T F, FunD.bindsN F fun _ _ _ _ _ _ us hl => match us, hl with | [_], _ => rfl, .nil, fun _ _ => Rps.nil⟩, F.kp⟩
theorem ok_law_unlike_fn (T : TX K mg base) {fd} (F : FunD K.K d_law_unlike.name d_law_unlike.qual d_law_unlike.params d_law_unlike.body d_law_unlike.scope (d_law_unlike.dvs K.K) (d_law_unlike.kws K.K) (He.fAd K.K d_law_unlike.at_) fd) : FnOk K.P K.w K.K mg base (L2.CX K.P K.w) 1 (He.fAd K.K ("_law_unlike", none)) fd ["_law_some"] (toSp K (A_law_unlike K)) :=
  fn_ok F sc_law_unlike (fun _ _ _ _ h => l_law_unlike h) fun cdv A0 outer s H E hr ds S Qa Ea ok h hx => ⟨_, b_law_unlike T  cdv A0 outer s H E hr S H _ hx, p_law_unlike T.c h⟩
theorem ok_law_unlike (T : TX K mg base) : OkF K mg base 1 ("_law_unlike", none) ["_law_some"] [] (A_law_unlike K) := by
  obtain ⟨fd, F⟩ := T.c.def_ 15 (d := d_law_unlike) rfl
  exact ⟨⟨fd, [], [], ok_law_unlike_fn T F, FunD.bindsN F fun _ _ _ _ _ _ us hl => match us, hl with | [_], _ => rfl, .nil, fun _ _ => Rps.nil⟩, F.kp⟩
theorem ok_law_in_rows_fn (T : TX K mg base) {fd} (F : FunD K.K d_law_in_rows.name d_law_in_rows.qual d_law_in_rows.params d_law_in_rows.body d_law_in_rows.scope (d_law_in_rows.dvs K.K) (d_law_in_rows.kws K.K) (He.fAd K.K d_law_in_rows.at_) fd) : FnOk K.P K.w K.K mg base (L2.CX K.P K.w) 1 (He.fAd K.K ("_law_in_rows", none)) fd ["_law_items_here", "_law_shape_here"] (toSp K (A_law_in_rows K)) :=
  fn_ok F sc_law_in_rows (fun _ _ _ _ h => l_law_in_rows h) fun cdv A0 outer s H E hr ds S Qa Ea ok h hx => ⟨_, b_law_in_rows T  cdv A0 outer s H E hr S H _ hx, p_law_in_rows T.c h⟩
theorem ok_law_in_rows (T : TX K mg base) : OkF K mg base 1 ("_law_in_rows", none) ["_law_items_here", "_law_shape_here"] [] (A_law_in_rows K) := by
  obtain ⟨fd, F⟩ := T.c.def_ 16 (d := d_law_in_rows) rfl
  exact ⟨⟨fd, [], [], ok_law_in_rows_fn T F, FunD.bindsN F fun _ _ _ _ _ _ us hl => match us, hl with | [_, _], _ => rfl, .nil, fun _ _ => Rps.nil⟩, F.kp⟩
theorem ok_law_stretch_fn (T : TX K mg base) {fd} (F : FunD K.K d_law_stretch.name d_law_stretch.qual d_law_stretch.params d_law_stretch.body d_law_stretch.scope (d_law_stretch.dvs K.K) (d_law_stretch.kws K.K) (He.fAd K.K d_law_stretch.at_) fd) : FnOk K.P K.w K.K mg base (L2.CX K.P K.w) 4 (He.fAd K.K ("_law_stretch", none)) fd ["_law_state", "_law_shape_here", "_law_pool_here"] (toSp K (A_law_stretch K)) :=
  fn_ok F sc_law_stretch (fun _ _ _ _ h => l_law_stretch h) fun cdv A0 outer s H E hr ds S Qa Ea ok h hx => ⟨_, b_law_stretch T (ok_law_in_rows T) (ok_law_pick T) cdv A0 outer s H E hr S H _ hx, p_law_stretch T.c h⟩
theorem ok_law_stretch (T : TX K mg base) : OkF K mg base 4 ("_law_stretch", none) ["_law_state", "_law_shape_here", "_law_pool_here"] [] (A_law_stretch K) := by
  obtain ⟨fd, F⟩ := T.c.def_ 17 (d := d_law_stretch) rfl
  exact ⟨⟨fd, [], [], ok_law_stretch_fn T F, FunD.bindsN F fun _ _ _ _ _ _ us hl => match us, hl with | [_, _, _], _ => rfl, .nil, fun _ _ => Rps.nil⟩, F.kp⟩
theorem ok_law_reshaped_fn (T : TX K mg base) {fd} (F : FunD K.K d_law_reshaped.name d_law_reshaped.qual d_law_reshaped.params d_law_reshaped.body d_law_reshaped.scope (d_law_reshaped.dvs K.K) (d_law_reshaped.kws K.K) (He.fAd K.K d_law_reshaped.at_) fd) : FnOk K.P K.w K.K mg base (L2.CX K.P K.w) 1 (He.fAd K.K ("_law_reshaped", none)) fd ["_law_way", "_law_place", "_law_rows"] (toSp K (A_law_reshaped K)) :=
  fn_ok F sc_law_reshaped (fun _ _ _ _ h => l_law_reshaped h) fun cdv A0 outer s H E hr ds S Qa Ea ok h hx => ⟨_, b_law_reshaped T  cdv A0 outer s H E hr S H _ hx, p_law_reshaped T.c h⟩
theorem ok_law_reshaped (T : TX K mg base) : OkF K mg base 1 ("_law_reshaped", none) ["_law_way", "_law_place", "_law_rows"] [] (A_law_reshaped K) := by
  obtain ⟨fd, F⟩ := T.c.def_ 18 (d := d_law_reshaped) rfl
  exact ⟨⟨fd, [], [], ok_law_reshaped_fn T F, FunD.bindsN F fun _ _ _ _ _ _ us hl => match us, hl with | [_, _, _], _ => rfl, .nil, fun _ _ => Rps.nil⟩, F.kp⟩
theorem ok_law_copy_fn (T : TX K mg base) {fd} (F : FunD K.K d_law_copy.name d_law_copy.qual d_law_copy.params d_law_copy.body d_law_copy.scope (d_law_copy.dvs K.K) (d_law_copy.kws K.K) (He.fAd K.K d_law_copy.at_) fd) : FnOk K.P K.w K.K mg base (L2.CX K.P K.w) 1 (He.fAd K.K ("_law_copy", none)) fd ["_law_rows"] (toSp K (A_law_copy K)) :=
  fn_ok F sc_law_copy (fun _ _ _ _ h => l_law_copy h) fun cdv A0 outer s H E hr ds S Qa Ea ok h hx => ⟨_, b_law_copy T  cdv A0 outer s H E hr S H _ hx, p_law_copy T.c h⟩
theorem ok_law_copy (T : TX K mg base) : OkF K mg base 1 ("_law_copy", none) ["_law_rows"] [] (A_law_copy K) := by
  obtain ⟨fd, F⟩ := T.c.def_ 19 (d := d_law_copy) rfl
  exact ⟨⟨fd, [], [], ok_law_copy_fn T F, FunD.bindsN F fun _ _ _ _ _ _ us hl => match us, hl with | [_], _ => rfl, .nil, fun _ _ => Rps.nil⟩, F.kp⟩
theorem ok_law_own_fn (T : TX K mg base) {fd} (F : FunD K.K d_law_own.name d_law_own.qual d_law_own.params d_law_own.body d_law_own.scope (d_law_own.dvs K.K) (d_law_own.kws K.K) (He.fAd K.K d_law_own.at_) fd) : FnOk K.P K.w K.K mg base (L2.CX K.P K.w) 2 (He.fAd K.K ("_law_own", none)) fd ["_law_found"] (toSp K (A_law_own K)) :=
  fn_ok F sc_law_own (fun _ _ _ _ h => l_law_own h) fun cdv A0 outer s H E hr ds S Qa Ea ok h hx => ⟨_, b_law_own T (ok_law_copy T) cdv A0 outer s H E hr S H _ hx, p_law_own T.c h⟩
theorem ok_law_own (T : TX K mg base) : OkF K mg base 2 ("_law_own", none) ["_law_found"] [] (A_law_own K) := by
  obtain ⟨fd, F⟩ := T.c.def_ 20 (d := d_law_own) rfl
  exact ⟨⟨fd, [], [], ok_law_own_fn T F, FunD.bindsN F fun _ _ _ _ _ _ us hl => match us, hl with | [_], _ => rfl, .nil, fun _ _ => Rps.nil⟩, F.kp⟩
theorem ok_law_shape_of_fn (T : TX K mg base) {fd} (F : FunD K.K d_law_shape_of.name d_law_shape_of.qual d_law_shape_of.params d_law_shape_of.body d_law_shape_of.scope (d_law_shape_of.dvs K.K) (d_law_shape_of.kws K.K) (He.fAd K.K d_law_shape_of.at_) fd) : FnOk K.P K.w K.K mg base (L2.CX K.P K.w) 1 (He.fAd K.K ("_law_shape_of", none)) fd ["_law_rows"] (toSp K (A_law_shape_of K)) :=
  fn_ok F sc_law_shape_of (fun _ _ _ _ h => l_law_shape_of h) fun cdv A0 outer s H E hr ds S Qa Ea ok h hx => ⟨_, b_law_shape_of T  cdv A0 outer s H E hr S H _ hx, p_law_shape_of T.c h⟩
theorem ok_law_shape_of (T : TX K mg base) : OkF K mg base 1 ("_law_shape_of", none) ["_law_rows"] [] (A_law_shape_of K) := by
  obtain ⟨fd, F⟩ := T.c.def_ 21 (d := d_law_shape_of) rfl
  exact ⟨⟨fd, [], [], ok_law_shape_of_fn T F, FunD.bindsN F fun _ _ _ _ _ _ us hl => match us, hl with | [_], _ => rfl, .nil, fun _ _ => Rps.nil⟩, F.kp⟩
theorem ok_law_items_fn (T : TX K mg base) {fd} (F : FunD K.K d_law_items.name d_law_items.qual d_law_items.params d_law_items.body d_law_items.scope (d_law_items.dvs K.K) (d_law_items.kws K.K) (He.fAd K.K d_law_items.at_) fd) : FnOk K.P K.w K.K mg base (L2.CX K.P K.w) 1 (He.fAd K.K ("_law_items", none)) fd ["_law_rows"] (toSp K (A_law_items K)) :=
  fn_ok F sc_law_items (fun _ _ _ _ h => l_law_items h) fun cdv A0 outer s H E hr ds S Qa Ea ok h hx => ⟨_, b_law_items T  cdv A0 outer s H E hr S H _ hx, p_law_items T.c h⟩
theorem ok_law_items (T : TX K mg base) : OkF K mg base 1 ("_law_items", none) ["_law_rows"] [] (A_law_items K) := by
  obtain ⟨fd, F⟩ := T.c.def_ 22 (d := d_law_items) rfl
  exact ⟨⟨fd, [], [], ok_law_items_fn T F, FunD.bindsN F fun _ _ _ _ _ _ us hl => match us, hl with | [_], _ => rfl, .nil, fun _ _ => Rps.nil⟩, F.kp⟩
theorem ok_law_hole_fn (T : TX K mg base) {fd} (F : FunD K.K d_law_hole.name d_law_hole.qual d_law_hole.params d_law_hole.body d_law_hole.scope (d_law_hole.dvs K.K) (d_law_hole.kws K.K) (He.fAd K.K d_law_hole.at_) fd) : FnOk K.P K.w K.K mg base (L2.CX K.P K.w) 1 (He.fAd K.K ("_law_hole", none)) fd ["_law_item"] (toSp K (A_law_hole K)) :=
  fn_ok F sc_law_hole (fun _ _ _ _ h => l_law_hole h) fun cdv A0 outer s H E hr ds S Qa Ea ok h hx => ⟨_, b_law_hole T  cdv A0 outer s H E hr S H _ hx, p_law_hole T.c h⟩
theorem ok_law_hole (T : TX K mg base) : OkF K mg base 1 ("_law_hole", none) ["_law_item"] [] (A_law_hole K) := by
  obtain ⟨fd, F⟩ := T.c.def_ 23 (d := d_law_hole) rfl
  exact ⟨⟨fd, [], [], ok_law_hole_fn T F, FunD.bindsN F fun _ _ _ _ _ _ us hl => match us, hl with | [_], _ => rfl, .nil, fun _ _ => Rps.nil⟩, F.kp⟩
theorem ok_law_is_form_fn (T : TX K mg base) {fd} (F : FunD K.K d_law_is_form.name d_law_is_form.qual d_law_is_form.params d_law_is_form.body d_law_is_form.scope (d_law_is_form.dvs K.K) (d_law_is_form.kws K.K) (He.fAd K.K d_law_is_form.at_) fd) : FnOk K.P K.w K.K mg base (L2.CX K.P K.w) 2 (He.fAd K.K ("_law_is_form", none)) fd ["_law_thing", "_law_shape_here"] (toSp K (A_law_is_form K)) :=
  fn_ok F sc_law_is_form (fun _ _ _ _ h => l_law_is_form h) fun cdv A0 outer s H E hr ds S Qa Ea ok h hx => ⟨_, b_law_is_form T (ok_law_items T) (ok_law_hole T) cdv A0 outer s H E hr S H _ hx, p_law_is_form T.c h⟩
theorem ok_law_is_form (T : TX K mg base) : OkF K mg base 2 ("_law_is_form", none) ["_law_thing", "_law_shape_here"] [] (A_law_is_form K) := by
  obtain ⟨fd, F⟩ := T.c.def_ 24 (d := d_law_is_form) rfl
  exact ⟨⟨fd, [], [], ok_law_is_form_fn T F, FunD.bindsN F fun _ _ _ _ _ _ us hl => match us, hl with | [_, _], _ => rfl, .nil, fun _ _ => Rps.nil⟩, F.kp⟩
theorem ok_law_right_fn (T : TX K mg base) {fd} (F : FunD K.K d_law_right.name d_law_right.qual d_law_right.params d_law_right.body d_law_right.scope (d_law_right.dvs K.K) (d_law_right.kws K.K) (He.fAd K.K d_law_right.at_) fd) : FnOk K.P K.w K.K mg base (L2.CX K.P K.w) 3 (He.fAd K.K ("_law_right", none)) fd ["_law_found", "_law_given"] (toSp K (A_law_right K)) :=
  fn_ok F sc_law_right (fun _ _ _ _ h => l_law_right h) fun cdv A0 outer s H E hr ds S Qa Ea ok h hx => ⟨_, b_law_right T (ok_law_is_form T) (ok_law_shape_of T) (ok_law_items T) (ok_law_hole T) cdv A0 outer s H E hr S H _ hx, p_law_right T.c h⟩
theorem ok_law_right (T : TX K mg base) : OkF K mg base 3 ("_law_right", none) ["_law_found", "_law_given"] [] (A_law_right K) := by
  obtain ⟨fd, F⟩ := T.c.def_ 25 (d := d_law_right) rfl
  exact ⟨⟨fd, [], [], ok_law_right_fn T F, FunD.bindsN F fun _ _ _ _ _ _ us hl => match us, hl with | [_, _], _ => rfl, .nil, fun _ _ => Rps.nil⟩, F.kp⟩
theorem ok_law {K : Kx} (c : SaysB fa fn K.K) : ∃ fd, (∀ (mg : Str → Option Value) (base : Heap), TX K mg base → FnOk K.P K.w K.K mg base (L2.CX K.P K.w) 6 (He.fAd K.K ("law", none)) fd ["_law_script"] (spL K 63)) ∧ ∀ (s : Shared) (u : Value), BindsTo s fd ⟨[u], []⟩ [("_law_script", u)] := by
  obtain ⟨fd, F⟩ := c.def_ 26 (d := d_law) rfl
  have b := FunD.bindsA (ps := ["_law_script"]) F fun _ _ _ _ _ _ us hl => match us, hl with | [_], _ => rfl
  exact ⟨fd, fun mg base T => fn_law F sc_law (fun cdv A0 outer s H E hr S0 H0 hx => b_law T (ok_law_begin T) (ok_law_next T) (ok_law_pick T) (ok_law_shape T) (ok_law_pool T) (ok_law_stretch T) (ok_law_reshaped T) (ok_law_copy T) (ok_law_asked T) (ok_law_unlike T) (ok_law_shape_of T) (ok_law_right T) (ok_law_own T) cdv A0 outer s H E hr S0 H0 _ hx) fun ns hn => p_law T.c ns hn, fun s u => b s [u] rfl⟩
end
abbrev R : PySem.W.OpenRow := PySem.W.OpenLaw.row PySem.Challenge.rw_kinrows_k42_forms_of_stretches
abbrev hk : PySem.W.Hook := hookB 4 fa fn
def ob (s : PySem.W.SharedT) : He.AlD := obsBG 4 fa fn (HandSHeadRun.getT s)
theorem ob_eq (s : PySem.W.SharedT) : ob s = hk.obs s.abs := obsBG_eq (HandSHeadRun.getT_eq s)
theorem run (w : World) : HandSHeadRun.RunEq R (PySem.W.view R.prog [35]) hk ob 4000 ["KinError", "BadRow", "BadWord", "BadForm", "Shape", "NoRows", "BadFilling", "items_of", "need_shape", "in_rows", "opened", "form_of", "_law_begin", "_law_more", "_law_next", "_law_pick", "_law_word", "_law_pool", "_law_shape", "_law_in_rows", "_law_copy", "_law_items", "_law_shape_of", "_law_reshaped", "_law_hole", "_law_is_form", "_law_classes", "_law_asked", "_law_stretch", "_law_right", "_law_unlike", "_law_own"] w := by
  intro os
  kernel_rfl
end N42
open PySem PySem.W PySem.Calls PyProof.Rows
theorem PySem.Challenge.cw_kinrows_k42_forms_of_stretches_holds : PySem.Challenge.rw_kinrows_k42_forms_of_stretches.Holds := by
  w_on; o_law
  refine HandSHeadRun.head_any (r := OpenLaw.row PySem.Challenge.rw_kinrows_k42_forms_of_stretches) (q := view (OpenLaw.row PySem.Challenge.rw_kinrows_k42_forms_of_stretches).prog [35]) (H := N42.hk) (ob := N42.ob) (M := 4000) (loose := ["KinError", "BadRow", "BadWord", "BadForm", "Shape", "NoRows", "BadFilling", "items_of", "need_shape", "in_rows", "opened", "form_of", "_law_begin", "_law_more", "_law_next", "_law_pick", "_law_word", "_law_pool", "_law_shape", "_law_in_rows", "_law_copy", "_law_items", "_law_shape_of", "_law_reshaped", "_law_hole", "_law_is_form", "_law_classes", "_law_asked", "_law_stretch", "_law_right", "_law_unlike", "_law_own"]) (d := HandSHeadRun.topDef (OpenLaw.row PySem.Challenge.rw_kinrows_k42_forms_of_stretches).prog 35) (kwd := []) N42.ob_eq
    (by kernel_rfl) (fun s => by kernel_rfl) N42.run (by kernel_rfl) (by kernel_rfl) (by kernel_rfl) (by rfl) (by first | assumption | decide +kernel) (by decide +kernel) ⟨rfl, rfl, rfl, rfl, rfl, by decide +kernel⟩ ?hw ?hc
  case hw => w_witness2
  case hc =>
    refine KR.walk_ofW (l := PySem.Challenge.rw_kinrows_k42_forms_of_stretches) (n := 63) (k := 6) (x := "_law_script") rfl (by decide) (by kernel_rfl) ⟨rfl, by decide, by decide⟩ ?_
    intro w mg fa h Y G hmg0
    obtain ⟨K, KX, c⟩ := Y
    have hmg : mg ("law" : PySem.Str) = some (.ref fa) := by
      have e : (HandSHeadRun.topDef (OpenLaw.row PySem.Challenge.rw_kinrows_k42_forms_of_stretches).prog 35).name = ("law" : PySem.Str) := by kernel_rfl
      rw [← e]
      exact hmg0
    have ef := hmg.symm.trans (He.glo_ok KX G (c.fact 53 (f := .old (.glo "law")) rfl))
    cases ef
    obtain ⟨fd, hF, hb⟩ := N42.ok_law (K := ⟨K, (PySem.Challenge.rw_kinrows_k42_forms_of_stretches).prog, w⟩) c
    exact ⟨K, fd, KR.spL ⟨K, (PySem.Challenge.rw_kinrows_k42_forms_of_stretches).prog, w⟩ 63, KX, hb, fun H a ns hl ho hS => ⟨a, ns, rfl, hS, hl, ho, fun _ => rfl⟩, fun base h1 h2 => hF mg base ⟨h1, h2, c⟩⟩
