import PyProof.Rows.All
import Wide.All
import OpenK.AllK
import Wide.FinOn
import HandS.ForMost
import HandS.ForExc
import HandS.IsInst
import HandS.TupAny
import HandS.TupMul
import HandS.Wide
import HandS.CallSlots
import HandS.Style
import PyProof.EqAt
import PyProof.EqKinds
import PyProof.NeKinds
import HandS.StrMore
import PyProof.StrOps2
import KE.KRevSl
import PyProof.RowDictHeap
import HandS.FStr
import HandS.ExcInit
import HandS.ExcIs
import HandS.ExcField
import KE.KExcIs
import HandS.Sort
import HandS.Replace
import HandS.ReplaceLit
import PyProof.ReprLen
import PySem.Challenge.RW_breakins_k12_texts_of_no_story
set_option Elab.async false
set_option linter.all false
set_option maxRecDepth 100000
set_option maxHeartbeats 4000000
/-! Mi0: plain data, stores, the relation to the hand layer's heap, lifting. -/
namespace Mi
open PySem PySem.Spec L2

/-! ### plain data -/
inductive D where
  | non
  | bl (b : Bool)
  | int (i : Int)
  | str (x : Str)
  | tup (xs : List D)
  | ref (l : Nat)
  | scr (xs : List Int)
  | exn (a dd : Addr) (ks : List Str) (xs : List D)

inductive O where
  | lst (xs : List D)
  | dic (kvs : List (Key × D))

abbrev Store := List O
structure Exc where
  cls : Str
  fs : List (Str × D)
inductive R (α : Type) where
  | ok (a : α) (st : Store)
  | exc (e : Exc) (st : Store)
  | bad
def bindR {α β : Type} (r : R α) (f : α → Store → R β) : R β := match r with
  | .ok a st => f a st
  | .exc e st => .exc e st
  | .bad => .bad
def optR {α : Type} (r : Option (α × Store)) : R α := match r with
  | some (a, st) => .ok a st
  | none => .bad
theorem bindR_ok {α β : Type} (a : α) (st : Store) (f : α → Store → R β) : bindR (.ok a st) f = f a st := rfl
theorem bindR_exc {α β : Type} (e : Exc) (st : Store) (f : α → Store → R β) : bindR (.exc e st) f = .exc e st := rfl
theorem bindR_bad {α β : Type} (f : α → Store → R β) : bindR .bad f = .bad := rfl
theorem optR_some {α : Type} (a : α) (st : Store) : optR (some (a, st)) = .ok a st := rfl
theorem optR_none {α : Type} : optR (none : Option (α × Store)) = .bad := rfl
abbrev Rho := List (Option D)
abbrev EF := Rho → Store → R D
abbrev LIM : Nat := 16777216
theorem lim_eq : sizeLine = LIM := by rw [sizeLine_eq]

/-! ### the relation -/
def FzL (K : PySem.W.Frag) (H : Hp) (a : Addr) (xs : List V) : Prop :=
  (∃ o, H a = some (.frz o (.lst xs))) ∨
    ∃ (o : Obj) (its : Array Value) (n : Nat), K.lookup a = some o ∧ o.cls = .type "list" ∧ o.dict = none ∧ o.data = .seq its n ∧ its.size ≤ sizeLine ∧ Vals xs its.toList
theorem FzL.seq {K : PySem.W.Frag} {H : Hp} {a : Addr} {xs : List V} (h : FzL K H a xs) : SqL K H a xs := by
  rcases h with ⟨o, h⟩ | h
  · exact .inl (.inr ⟨o, h⟩)
  · exact .inr h
mutual
def RV (K : PySem.W.Frag) (m : List Addr) (H : Hp) : D → V → Prop
  | .non, v => v = .non
  | .bl b, v => v = .bl b
  | .int i, v => v = .int i
  | .str x, v => v = .str x
  | .tup ds, v => ∃ a vs, v = .ref a ∧ SqT K H a vs ∧ RVs K m H ds vs
  | .ref l, v => ∃ a, v = .ref a ∧ m[l]? = some a
  | .scr ns, v => ∃ a, v = .ref a ∧ FzL K H a (ns.map V.int)
  | .exn a dd ks ds, v => v = .ref a ∧ ∃ zs : List V, H dd = some (.xd (ks.zip zs)) ∧ ks.length = zs.length ∧ RVs K m H ds zs
def RVs (K : PySem.W.Frag) (m : List Addr) (H : Hp) : List D → List V → Prop
  | [], vs => vs = []
  | d :: ds, vs => ∃ v vr, vs = v :: vr ∧ RV K m H d v ∧ RVs K m H ds vr
end
def RKs (K : PySem.W.Frag) (m : List Addr) (H : Hp) (kvs : List (Key × D)) (ws : List (Key × V)) : Prop :=
  kvs.map (·.1) = ws.map (·.1) ∧ RVs K m H (kvs.map (·.2)) (ws.map (·.2))
def RO (K : PySem.W.Frag) (m : List Addr) (H : Hp) (a : Addr) : O → Prop
  | .lst ds => ∃ vs, H a = some (.lst vs) ∧ RVs K m H ds vs
  | .dic kvs => ∃ ws, H a = some (.dK ws) ∧ RKs K m H kvs ws
structure RSt (K : PySem.W.Frag) (m : List Addr) (H : Hp) (st : Store) : Prop where
  len : m.length = st.length
  nd : m.Nodup
  ob : ∀ (l : Nat) (a : Addr) (o : O), m[l]? = some a → st[l]? = some o → RO K m H a o
structure Ext (m : List Addr) (H : Hp) (m' : List Addr) (H' : Hp) : Prop where
  pre : ∃ n, m' = m ++ n ∧ ∀ a ∈ n, H a = none
  keep : ∀ a o, H a = some o → a ∉ m → H' a = some o
def RE (K : PySem.W.Frag) (m : List Addr) (H : Hp) (r : Rho) (s : St) : Prop :=
  ∀ (i : Nat) (d : D), r[i]? = some (some d) → ∃ v, s[i]? = some (some v) ∧ RV K m H d v
/-- an error, as it is known behind -/
def RX (cm : Str → Option Value) (K : PySem.W.Frag) (m : List Addr) (H : Hp) (e : Exc) (c : Value) (dd : Option Addr) : Prop :=
  cm e.cls = some c ∧ ∃ a fs, dd = some a ∧ H a = some (.xd fs) ∧ a ∉ m ∧ e.fs.map (·.1) = fs.map (·.1) ∧ RVs K m H (e.fs.map (·.2)) (fs.map (·.2))

section
variable {K : PySem.W.Frag} {m m' m'' : List Addr} {H H' H'' : Hp} {st st' : Store}
theorem RVs.len : ∀ {ds : List D} {vs : List V}, RVs K m H ds vs → ds.length = vs.length
  | [], vs, h => by simp only [RVs] at h; subst h; rfl
  | d :: ds, vs, h => by
    simp only [RVs] at h
    obtain ⟨v, vr, rfl, _, h⟩ := h
    simp only [List.length_cons, RVs.len h]
theorem RVs.get : ∀ {ds : List D} {vs : List V}, RVs K m H ds vs → ∀ {i : Nat} {d : D}, ds[i]? = some d → ∃ v, vs[i]? = some v ∧ RV K m H d v
  | [], vs, h, i, d, e => by simp at e
  | d0 :: ds, vs, h, i, d, e => by
    simp only [RVs] at h
    obtain ⟨v, vr, rfl, h0, h⟩ := h
    cases i with
    | zero => simp at e; subst e; exact ⟨v, by simp, h0⟩
    | succ i => simpa using RVs.get h (by simpa using e)
theorem RVs.get' : ∀ {ds : List D} {vs : List V}, RVs K m H ds vs → ∀ {i : Nat} {v : V}, vs[i]? = some v → ∃ d, ds[i]? = some d ∧ RV K m H d v
  | [], vs, h, i, d, e => by simp only [RVs] at h; subst h; simp at e
  | d0 :: ds, vs, h, i, d, e => by
    simp only [RVs] at h
    obtain ⟨v, vr, rfl, h0, h⟩ := h
    cases i with
    | zero => simp at e; subst e; exact ⟨d0, by simp, h0⟩
    | succ i => simpa using RVs.get' h (by simpa using e)
theorem RVs.append : ∀ {ds es : List D} {vs ws : List V}, RVs K m H ds vs → RVs K m H es ws → RVs K m H (ds ++ es) (vs ++ ws)
  | [], es, vs, ws, h, h' => by simp only [RVs] at h; subst h; simpa using h'
  | d :: ds, es, vs, ws, h, h' => by
    simp only [RVs] at h
    obtain ⟨v, vr, rfl, h0, h⟩ := h
    simp only [List.cons_append, RVs]
    exact ⟨v, vr ++ ws, rfl, h0, RVs.append h h'⟩
theorem RVs.drop : ∀ (n : Nat) {ds : List D} {vs : List V}, RVs K m H ds vs → RVs K m H (ds.drop n) (vs.drop n)
  | 0, _, _, h => by simpa using h
  | n + 1, [], vs, h => by simp only [RVs] at h; subst h; simp [RVs]
  | n + 1, d :: ds, vs, h => by
    simp only [RVs] at h
    obtain ⟨v, vr, rfl, h0, h⟩ := h
    simpa using RVs.drop n h
theorem RVs.take : ∀ (n : Nat) {ds : List D} {vs : List V}, RVs K m H ds vs → RVs K m H (ds.take n) (vs.take n)
  | 0, _, _, h => by simp [RVs]
  | n + 1, [], vs, h => by simp only [RVs] at h; subst h; simp [RVs]
  | n + 1, d :: ds, vs, h => by
    simp only [RVs] at h
    obtain ⟨v, vr, rfl, h0, h⟩ := h
    simp only [List.take_succ_cons, RVs]
    exact ⟨v, _, rfl, h0, RVs.take n h⟩
theorem RVs.one {d : D} {v : V} (h : RV K m H d v) : RVs K m H [d] [v] := by simp only [RVs]; exact ⟨v, [], rfl, h, rfl⟩
theorem RVs.nil : RVs K m H [] [] := by simp only [RVs]
theorem RVs.cons {d : D} {v : V} {ds : List D} {vs : List V} (h : RV K m H d v) (h' : RVs K m H ds vs) : RVs K m H (d :: ds) (v :: vs) := by simp only [RVs]; exact ⟨v, vs, rfl, h, h'⟩
theorem RVs.set : ∀ (n : Nat) {d : D} {v : V} {ds : List D} {vs : List V}, RV K m H d v → RVs K m H ds vs → RVs K m H (ds.set n d) (vs.set n v)
  | _, d, v, [], vs, _, h => by simp only [RVs] at h; subst h; simp [RVs]
  | 0, d, v, d0 :: ds, vs, r, h => by
    simp only [RVs] at h
    obtain ⟨v0, vr, rfl, h0, h⟩ := h
    simp only [List.set_cons_zero, RVs]
    exact ⟨v, _, rfl, r, h⟩
  | n + 1, d, v, d0 :: ds, vs, r, h => by
    simp only [RVs] at h
    obtain ⟨v0, vr, rfl, h0, h⟩ := h
    simp only [List.set_cons_succ, RVs]
    exact ⟨v0, _, rfl, h0, RVs.set n r h⟩
theorem RVs.reverse : ∀ {ds : List D} {vs : List V}, RVs K m H ds vs → RVs K m H ds.reverse vs.reverse
  | [], vs, h => by simp only [RVs] at h; subst h; simp [RVs]
  | d :: ds, vs, h => by
    simp only [RVs] at h
    obtain ⟨v, vr, rfl, h0, h⟩ := h
    simp only [List.reverse_cons]
    exact (RVs.reverse h).append (RVs.one h0)
theorem RVs.dropLast {ds : List D} {vs : List V} (h : RVs K m H ds vs) : RVs K m H ds.dropLast vs.dropLast := by
  rw [List.dropLast_eq_take, List.dropLast_eq_take, h.len]
  exact h.take _
theorem RVs.ints : ∀ {ns : List Int} {vs : List V}, RVs K m H (ns.map D.int) vs ↔ vs = ns.map V.int
  | [], vs => by simp [RVs]
  | n :: ns, vs => by
    simp only [List.map_cons, RVs, RV]
    constructor
    · rintro ⟨v, vr, rfl, rfl, h⟩; rw [RVs.ints.mp h]
    · rintro rfl; exact ⟨_, _, rfl, rfl, RVs.ints.mpr rfl⟩

/-- what stands at a known place -/
theorem RSt.at (r : RSt K m H st) {a : Addr} (h : a ∈ m) : ∃ (l : Nat) (o : O), m[l]? = some a ∧ st[l]? = some o ∧ RO K m H a o := by
  obtain ⟨l, hl, e⟩ := List.getElem_of_mem h
  have hl' : l < st.length := by rw [← r.len]; exact hl
  have e1 : m[l]? = some a := by rw [List.getElem?_eq_getElem hl, e]
  exact ⟨l, st[l], e1, List.getElem?_eq_getElem hl', r.ob l a _ e1 (List.getElem?_eq_getElem hl')⟩
theorem RO.some {a : Addr} {o : O} (h : RO K m H a o) : (∃ vs, H a = some (.lst vs)) ∨ ∃ ws, H a = some (.dK ws) := by
  cases o with
  | lst ds => obtain ⟨vs, h, _⟩ := h; exact .inl ⟨vs, h⟩
  | dic ds => obtain ⟨vs, h, _⟩ := h; exact .inr ⟨vs, h⟩
theorem RSt.there (r : RSt K m H st) {a : Addr} (h : a ∈ m) : (∃ vs, H a = some (.lst vs)) ∨ ∃ ws, H a = some (.dK ws) := by
  obtain ⟨l, o, _, _, h⟩ := r.at h
  exact h.some
theorem RSt.out (r : RSt K m H st) {a : Addr} {o : HO} (h : H a = some o) (h1 : ∀ vs, o ≠ .lst vs) (h2 : ∀ ws, o ≠ .dK ws) : a ∉ m := fun q => by
  rcases r.there q with ⟨vs, e⟩ | ⟨ws, e⟩
  · rw [h] at e; cases e; exact h1 _ rfl
  · rw [h] at e; cases e; exact h2 _ rfl
theorem RSt.fresh (r : RSt K m H st) {a : Addr} (h : H a = none) : a ∉ m := fun q => by
  rcases r.there q with ⟨vs, e⟩ | ⟨ws, e⟩ <;> (rw [h] at e; cases e)
theorem RSt.lt (r : RSt K m H st) {l : Nat} {a : Addr} (h : m[l]? = some a) : ∃ o, st[l]? = some o := by
  have hl : l < m.length := (List.getElem?_eq_some_iff.mp h).1
  exact ⟨st[l]'(by rw [← r.len]; exact hl), List.getElem?_eq_getElem _⟩
theorem RSt.addr (r : RSt K m H st) {l : Nat} {o : O} (h : st[l]? = some o) : ∃ a, m[l]? = some a ∧ RO K m H a o := by
  have hl : l < st.length := (List.getElem?_eq_some_iff.mp h).1
  have e : m[l]? = some (m[l]'(by rw [r.len]; exact hl)) := List.getElem?_eq_getElem _
  exact ⟨_, e, r.ob l _ o e h⟩

theorem Ext.refl : Ext m H m H := ⟨⟨[], by simp, by simp⟩, fun _ _ h _ => h⟩
theorem Ext.idx (e : Ext m H m' H') {l : Nat} {a : Addr} (h : m[l]? = some a) : m'[l]? = some a := by
  obtain ⟨n, rfl, _⟩ := e.pre
  rw [List.getElem?_append_left (List.getElem?_eq_some_iff.mp h).1]; exact h
/-- what the relation of values leans on -/
def TF (o : HO) : Prop := (∃ xs, o = .tup xs) ∨ (∃ ob u, o = .frz ob u) ∨ ∃ fs, o = .xd fs
structure Ext0 (m : List Addr) (H : Hp) (m' : List Addr) (H' : Hp) : Prop where
  pre : ∃ n, m' = m ++ n
  tf : ∀ a o, H a = some o → TF o → H' a = some o
theorem Ext0.refl : Ext0 m H m H := ⟨⟨[], by simp⟩, fun _ _ h _ => h⟩
theorem Ext0.idx (e : Ext0 m H m' H') {l : Nat} {a : Addr} (h : m[l]? = some a) : m'[l]? = some a := by
  obtain ⟨n, rfl⟩ := e.pre
  rw [List.getElem?_append_left (List.getElem?_eq_some_iff.mp h).1]; exact h
theorem RSt.outT (r : RSt K m H st) {a : Addr} {o : HO} (h : H a = some o) (t : TF o) : a ∉ m := by
  rcases t with ⟨xs, rfl⟩ | ⟨ob, u, rfl⟩ | ⟨fs, rfl⟩
  · exact r.out h (fun _ z => by cases z) fun _ z => by cases z
  · exact r.out h (fun _ z => by cases z) fun _ z => by cases z
  · exact r.out h (fun _ z => by cases z) fun _ z => by cases z
theorem Ext.to0 (e : Ext m H m' H') (r : RSt K m H st) : Ext0 m H m' H' := ⟨let ⟨n, h, _⟩ := e.pre; ⟨n, h⟩, fun a o h t => e.keep a o h (r.outT h t)⟩
theorem SqT.ext (e : Ext0 m H m' H') {a : Addr} {xs : List V} (h : SqT K H a xs) : SqT K H' a xs := by
  rcases h with (h | ⟨o, h⟩) | h
  · exact .inl (.inl (e.tf _ _ h (.inl ⟨_, rfl⟩)))
  · exact .inl (.inr ⟨o, e.tf _ _ h (.inr (.inl ⟨_, _, rfl⟩))⟩)
  · exact .inr h
theorem FzL.ext (e : Ext0 m H m' H') {a : Addr} {xs : List V} (h : FzL K H a xs) : FzL K H' a xs := by
  rcases h with ⟨o, h⟩ | h
  · exact .inl ⟨o, e.tf _ _ h (.inr (.inl ⟨_, _, rfl⟩))⟩
  · exact .inr h
mutual
theorem RV.ext0 (e : Ext0 m H m' H') : ∀ (d : D) {v : V}, RV K m H d v → RV K m' H' d v
  | .non, v, h => by simpa only [RV] using h
  | .bl b, v, h => by simpa only [RV] using h
  | .int i, v, h => by simpa only [RV] using h
  | .str x, v, h => by simpa only [RV] using h
  | .tup ds, v, h => by
    simp only [RV] at h ⊢
    obtain ⟨a, vs, rfl, h1, h2⟩ := h
    exact ⟨a, vs, rfl, SqT.ext e h1, RVs.ext0 e ds h2⟩
  | .ref l, v, h => by
    simp only [RV] at h ⊢
    obtain ⟨a, rfl, h⟩ := h
    exact ⟨a, rfl, e.idx h⟩
  | .scr ns, v, h => by
    simp only [RV] at h ⊢
    obtain ⟨a, rfl, h⟩ := h
    exact ⟨a, rfl, FzL.ext e h⟩
  | .exn a dd ks ds, v, h => by
    simp only [RV] at h ⊢
    obtain ⟨rfl, zs, h1, h2, h3⟩ := h
    exact ⟨rfl, zs, e.tf _ _ h1 (.inr (.inr ⟨_, rfl⟩)), h2, RVs.ext0 e ds h3⟩
theorem RVs.ext0 (e : Ext0 m H m' H') : ∀ (ds : List D) {vs : List V}, RVs K m H ds vs → RVs K m' H' ds vs
  | [], vs, h => by simpa only [RVs] using h
  | d :: ds, vs, h => by
    simp only [RVs] at h ⊢
    obtain ⟨v, vr, rfl, h1, h2⟩ := h
    exact ⟨v, vr, rfl, RV.ext0 e d h1, RVs.ext0 e ds h2⟩
end
theorem RV.ext (r : RSt K m H st) (e : Ext m H m' H') (d : D) {v : V} (h : RV K m H d v) : RV K m' H' d v := RV.ext0 (e.to0 r) d h
theorem RVs.ext (r : RSt K m H st) (e : Ext m H m' H') (ds : List D) {vs : List V} (h : RVs K m H ds vs) : RVs K m' H' ds vs := RVs.ext0 (e.to0 r) ds h
theorem RE.ext0 (e : Ext0 m H m' H') {p : Rho} {s : L2.St} (h : RE K m H p s) : RE K m' H' p s := fun i d q => by
  obtain ⟨v, e1, e2⟩ := h i d q
  exact ⟨v, e1, RV.ext0 e d e2⟩
theorem RE.ext (r : RSt K m H st) (e : Ext m H m' H') {p : Rho} {s : St} (h : RE K m H p s) : RE K m' H' p s := fun i d q => by
  obtain ⟨v, e1, e2⟩ := h i d q
  exact ⟨v, e1, RV.ext r e d e2⟩
theorem Ext.trans (e : Ext m H m' H') (r : RSt K m' H' st) (e' : Ext m' H' m'' H'') : Ext m H m'' H'' := by
  obtain ⟨n, rfl, hn⟩ := e.pre
  obtain ⟨n', rfl, hn'⟩ := e'.pre
  refine ⟨⟨n ++ n', by simp, fun a ha => ?_⟩, fun a o h ha => ?_⟩
  · rcases List.mem_append.mp ha with h | h
    · exact hn a h
    · have h0 := hn' a h
      cases q : H a with
      | none => rfl
      | some o =>
        by_cases hm : a ∈ m
        · exact absurd (List.mem_append_left n hm) (r.fresh h0)
        · rw [e.keep a o q hm] at h0; cases h0
  · refine e'.keep a o (e.keep a o h ha) fun q => ?_
    rcases List.mem_append.mp q with q | q
    · exact ha q
    · rw [hn a q] at h; cases h
theorem RO.ext0 (e : Ext0 m H m' H') {a : Addr} {o : O} (h : RO K m H a o) (ha : H' a = H a) : RO K m' H' a o := by
  cases o with
  | lst ds => obtain ⟨vs, h1, h2⟩ := h; exact ⟨vs, ha.trans h1, RVs.ext0 e _ h2⟩
  | dic ds => obtain ⟨vs, h1, h2, h3⟩ := h; exact ⟨vs, ha.trans h1, h2, RVs.ext0 e _ h3⟩
theorem RO.ext (r : RSt K m H st) (e : Ext m H m' H') {a : Addr} {o : O} (h : RO K m H a o) (ha : H' a = H a) : RO K m' H' a o := h.ext0 (e.to0 r) ha
/-- an address that is none of the known places stays none -/
theorem Ext.notin (e : Ext m H m' H') {a : Addr} {o : HO} (h : H a = some o) (ha : a ∉ m) : a ∉ m' := fun q => by
  obtain ⟨n, rfl, hn⟩ := e.pre
  rcases List.mem_append.mp q with q | q
  · exact ha q
  · rw [hn a q] at h; cases h
/-- what was not there may change -/
theorem Ext.touch (e : Ext m H m' H') {a : Addr} {o : HO} (h : H a = none) : Ext m H m' (upd H' a o) :=
  ⟨e.pre, fun b u hb hm => by rw [upd_ne (ne_of_none hb h)]; exact e.keep b u hb hm⟩
theorem ext0_touch {a : Addr} {o : HO} (h : ∀ u, H a = some u → ¬ TF u) {n : List Addr} : Ext0 m H (m ++ n) (upd H a o) :=
  ⟨⟨n, rfl⟩, fun b u hb t => by
    rw [upd_ne]
    · exact hb
    · rintro rfl; exact h u hb t⟩
/-- something beside the known places changes -/
theorem RSt.aside (r : RSt K m H st) {p : Addr} {o : HO} (hp : p ∉ m) (ht : ∀ u, H p = some u → ¬ TF u) : RSt K m (upd H p o) st := by
  have e : Ext0 m H m (upd H p o) := by simpa using ext0_touch (m := m) (o := o) ht (n := [])
  exact ⟨r.len, r.nd, fun l a u h1 h2 => (r.ob l a u h1 h2).ext0 e (upd_ne fun q => hp (q ▸ List.mem_of_getElem? h1))⟩
/-- something beside becomes a known place -/
theorem RSt.adopt (r : RSt K m H st) {p : Addr} {ho : HO} {o : O} (hp : p ∉ m) (ht : ∀ u, H p = some u → ¬ TF u) (new : RO K (m ++ [p]) (upd H p ho) p o) : RSt K (m ++ [p]) (upd H p ho) (st ++ [o]) := by
  have e : Ext0 m H (m ++ [p]) (upd H p ho) := ext0_touch ht
  refine ⟨by simp [r.len], ?_, fun l a u h1 h2 => ?_⟩
  · refine List.nodup_append.mpr ⟨r.nd, by simp, fun a ha b hb => ?_⟩
    rw [List.mem_singleton.mp hb]
    rintro rfl
    exact hp ha
  · by_cases hl : l < st.length
    · rw [List.getElem?_append_left hl] at h2
      rw [List.getElem?_append_left (by rw [r.len]; exact hl)] at h1
      exact (r.ob l a u h1 h2).ext0 e (upd_ne fun q => hp (q ▸ List.mem_of_getElem? h1))
    · have e : l = st.length := by
        have := (List.getElem?_eq_some_iff.mp h2).1
        rw [List.length_append, List.length_singleton] at this
        omega
      subst e
      rw [← r.len, List.getElem?_concat_length] at h1
      rw [List.getElem?_concat_length] at h2
      cases h1; cases h2
      exact new
/-- a new place at the end, after something new was adopted -/
theorem Ext.adopt (e : Ext m H m' H') {a : Addr} {o : HO} (h : H a = none) : Ext m H (m' ++ [a]) (upd H' a o) := by
  obtain ⟨n, rfl, hn⟩ := e.pre
  refine ⟨⟨n ++ [a], by simp, fun b hb => ?_⟩, (e.touch h).keep⟩
  rcases List.mem_append.mp hb with hb | hb
  · exact hn b hb
  · rw [List.mem_singleton.mp hb]; exact h

theorem nodupA {N : List Addr} (hN : N.Nodup) {i j : Nat} {x : Addr} (a : N[i]? = some x) (b : N[j]? = some x) : i = j := by
  obtain ⟨h1, e1⟩ := List.getElem?_eq_some_iff.mp a
  obtain ⟨h2, e2⟩ := List.getElem?_eq_some_iff.mp b
  exact (List.getElem_inj hN).mp (e1.trans e2.symm)
/-! ### heaps that change -/
theorem ext_fresh {p : Addr} {o : HO} (hp : H p = none) : Ext m H m (upd H p o) :=
  ⟨⟨[], by simp, by simp⟩, fun a u h _ => by rw [upd_ne (ne_of_none h hp)]; exact h⟩
/-- something new that is no known place -/
theorem RSt.beside (r : RSt K m H st) {p : Addr} {o : HO} (hp : H p = none) : RSt K m (upd H p o) st :=
  ⟨r.len, r.nd, fun l a u h1 h2 => (r.ob l a u h1 h2).ext r (ext_fresh hp) (upd_ne fun e => r.fresh hp (e ▸ List.mem_of_getElem? h1))⟩
theorem ext_push {p : Addr} {o : HO} (hp : H p = none) : Ext m H (m ++ [p]) (upd H p o) :=
  ⟨⟨[p], rfl, fun a ha => by rw [List.mem_singleton.mp ha]; exact hp⟩, fun a u h _ => by rw [upd_ne (ne_of_none h hp)]; exact h⟩
/-- a new known place -/
theorem RSt.push (r : RSt K m H st) {p : Addr} {ho : HO} {o : O} (hp : H p = none) (new : RO K (m ++ [p]) (upd H p ho) p o) : RSt K (m ++ [p]) (upd H p ho) (st ++ [o]) := by
  refine ⟨by simp [r.len], ?_, fun l a u h1 h2 => ?_⟩
  · refine List.nodup_append.mpr ⟨r.nd, by simp, fun a ha b hb => ?_⟩
    rw [List.mem_singleton.mp hb]
    rintro rfl
    exact r.fresh hp ha
  · by_cases hl : l < st.length
    · rw [List.getElem?_append_left hl] at h2
      rw [List.getElem?_append_left (by rw [r.len]; exact hl)] at h1
      exact (r.ob l a u h1 h2).ext r (ext_push hp) (upd_ne fun e => r.fresh hp (e ▸ List.mem_of_getElem? h1))
    · have e : l = st.length := by
        have := (List.getElem?_eq_some_iff.mp h2).1
        rw [List.length_append, List.length_singleton] at this
        omega
      subst e
      rw [← r.len, List.getElem?_concat_length] at h1
      rw [List.getElem?_concat_length] at h2
      cases h1; cases h2
      exact new
theorem ext_write {p : Addr} {o : HO} (hp : p ∈ m) : Ext m H m (upd H p o) :=
  ⟨⟨[], by simp, by simp⟩, fun a u h ha => by rw [upd_ne fun e => ha (by rw [e]; exact hp)]; exact h⟩
/-- a known place is changed -/
theorem RSt.write (r : RSt K m H st) {l : Nat} {p : Addr} {ho : HO} {o : O} (hl : m[l]? = some p) (new : RO K m (upd H p ho) p o) : RSt K m (upd H p ho) (st.set l o) := by
  refine ⟨by simp [r.len], r.nd, fun i a u h1 h2 => ?_⟩
  by_cases hi : l = i
  · subst hi
    rw [hl] at h1; cases h1
    have : l < st.length := by rw [← r.len]; exact (List.getElem?_eq_some_iff.mp hl).1
    rw [List.getElem?_set_self this] at h2; cases h2
    exact new
  · rw [List.getElem?_set_ne hi] at h2
    refine (r.ob i a u h1 h2).ext r (ext_write (List.mem_of_getElem? hl)) (upd_ne ?_)
    rintro rfl
    have h1' := hl
    have h1'' := h1
    exact hi (nodupA r.nd h1' h1'')
end

/-! ### lifting -/
section
variable (cm : Str → Option Value) (K : PySem.W.Frag)
def Post {α β : Type} (rel : List Addr → Hp → α → β → Prop) (W : Value → Option Addr → Hp → Prop) (m : List Addr) (H : Hp) (r : R α) (Q : β → Hp → Prop) : Prop :=
  match r with
  | .ok d st => ∀ m' H' v, Ext m H m' H' → RSt K m' H' st → rel m' H' d v → Q v H'
  | .exc e st => ∀ m' H' c dd, Ext m H m' H' → RSt K m' H' st → RX cm K m' H' e c dd → W c dd H'
  | .bad => False
/-- an expression, a test, an argument list -/
def LiftG {α β : Type} (rel : List Addr → Hp → α → β → Prop) (W : WX) (f : Rho → Store → R α) : St → Hp → (β → Hp → Prop) → Prop := fun s H Q =>
  ∃ m r st, RE K m H r s ∧ RSt K m H st ∧ Post cm K rel (fun c d H' => W c d s H') m H (f r st) Q
abbrev LiftE := LiftG cm K (RV K)
abbrev LiftT := LiftG cm K (fun _ _ (b b' : Bool) => b = b')
abbrev LiftA := LiftG cm K (RVs K)
/-- an operation, by values -/
def PostO {α β : Type} (rel : List Addr → Hp → α → β → Prop) (m : List Addr) (H : Hp) (r : Option (α × Store)) (Q : β → Hp → Prop) : Prop :=
  match r with
  | some (d, st) => ∀ m' H' v, Ext m H m' H' → RSt K m' H' st → rel m' H' d v → Q v H'
  | none => False
inductive SR where
  | nx (r : Rho) (st : Store)
  | rt (d : D) (st : Store)
  | bk (r : Rho) (st : Store)
  | ct (r : Rho) (st : Store)
  | xc (e : Exc) (r : Rho) (st : Store)
  | bad
abbrev SF := Rho → Store → SR
def PostS (W : WX) (m : List Addr) (H : Hp) (r : SR) (D : Ends) : Prop :=
  match r with
  | .nx p st => ∀ m' H' s, Ext m H m' H' → RSt K m' H' st → RE K m' H' p s → D.nx s H'
  | .rt d st => ∀ m' H' v, Ext m H m' H' → RSt K m' H' st → RV K m' H' d v → D.rt v H'
  | .bk p st => ∀ m' H' s, Ext m H m' H' → RSt K m' H' st → RE K m' H' p s → D.bk s H'
  | .ct p st => ∀ m' H' s, Ext m H m' H' → RSt K m' H' st → RE K m' H' p s → D.ct s H'
  | .xc e p st => ∀ m' H' s c dd, Ext m H m' H' → RSt K m' H' st → RE K m' H' p s → RX cm K m' H' e c dd → W c dd s H'
  | .bad => False
def LiftS (W : WX) (f : SF) : TS := fun D s H => ∃ m r st, RE K m H r s ∧ RSt K m H st ∧ PostS cm K W m H (f r st) D
end
section
variable {cm : Str → Option Value} {K : PySem.W.Frag} {α β γ δ : Type} {rel : List Addr → Hp → α → β → Prop} {rel' : List Addr → Hp → γ → δ → Prop} {W : Value → Option Addr → Hp → Prop} {m m1 : List Addr} {H H1 : Hp} {st1 : Store}
theorem Post.at {r : R α} {Q : β → Hp → Prop} (h : Post cm K rel W m H r Q) (e : Ext m H m1 H1) (rs : RSt K m1 H1 st1) : Post cm K rel W m1 H1 r Q := by
  cases r with
  | ok d st => exact fun m' H' v e' rs' rv => h m' H' v (e.trans rs e') rs' rv
  | exc x st => exact fun m' H' c dd e' rs' rx => h m' H' c dd (e.trans rs e') rs' rx
  | bad => exact h
theorem Post.split {r : R α} {g : α → Store → R γ} {Q' : β → Hp → Prop} {Q : δ → Hp → Prop} (h : Post cm K rel' W m H (bindR r g) Q)
    (k : ∀ d st1 m1 H1 v, r = .ok d st1 → Ext m H m1 H1 → RSt K m1 H1 st1 → rel m1 H1 d v → Post cm K rel' W m1 H1 (g d st1) Q → Q' v H1) : Post cm K rel W m H r Q' := by
  cases r with
  | ok d st => exact fun m' H' v e rs rv => k d st m' H' v rfl e rs rv (Post.at h e rs)
  | exc x st => exact h
  | bad => exact h
theorem PostO.of {r : Option (α × Store)} {Q : β → Hp → Prop} (h : Post cm K rel W m H (optR r) Q) : PostO K rel m H r Q := by
  cases r with
  | none => exact h
  | some p => exact h
theorem PostS.at {W : WX} {r : SR} {D : Ends} (h : PostS cm K W m H r D) (e : Ext m H m1 H1) (rs : RSt K m1 H1 st1) : PostS cm K W m1 H1 r D := by
  cases r with
  | nx p st => exact fun m' H' s e' rs' re => h m' H' s (e.trans rs e') rs' re
  | rt d st => exact fun m' H' s e' rs' re => h m' H' s (e.trans rs e') rs' re
  | bk p st => exact fun m' H' s e' rs' re => h m' H' s (e.trans rs e') rs' re
  | ct p st => exact fun m' H' s e' rs' re => h m' H' s (e.trans rs e') rs' re
  | xc e0 p st => exact fun m' H' s c dd e' rs' re rx => h m' H' s c dd (e.trans rs e') rs' re rx
  | bad => exact h
/-- an expression's result within a statement -/
def bindS (p : Rho) (r : R α) (f : α → Store → SR) : SR := match r with
  | .ok a st => f a st
  | .exc e st => .xc e p st
  | .bad => .bad
theorem bindS_ok (p : Rho) (a : α) (st : Store) (f : α → Store → SR) : bindS p (.ok a st) f = f a st := rfl
theorem bindS_bad (p : Rho) (f : α → Store → SR) : bindS p .bad f = .bad := rfl
theorem bindS_exc (p : Rho) (e : Exc) (st : Store) (f : α → Store → SR) : bindS p (.exc e st) f = .xc e p st := rfl
theorem PostS.split {W : WX} {p : Rho} {s : St} {st : Store} {r : R α} {g : α → Store → SR} {Q' : β → Hp → Prop} {D : Ends} (re : RE K m H p s) (rs0 : RSt K m H st) (h : PostS cm K W m H (bindS p r g) D)
    (k : ∀ d st1 m1 H1 v, r = .ok d st1 → Ext m H m1 H1 → RSt K m1 H1 st1 → rel m1 H1 d v → PostS cm K W m1 H1 (g d st1) D → Q' v H1) : Post cm K rel (fun c d H' => W c d s H') m H r Q' := by
  cases r with
  | ok d st => exact fun m' H' v e rs rv => k d st m' H' v rfl e rs rv (PostS.at h e rs)
  | exc x st => exact fun m' H' c dd e rs rx => h m' H' s c dd e rs (re.ext rs0 e) rx
  | bad => exact h
end
end Mi
set_option Elab.async false
set_option linter.all false
set_option maxRecDepth 100000
set_option maxHeartbeats 4000000
/-! Mi1: expressions. -/
namespace Mi
open PySem PySem.Spec L2

/-! ### judgements -/
def DE (cm : Str → Option Value) (W : WX) (X : Cx) (e : Expr) (f : EF) : Prop := PE X e (LiftE cm X.K W f)
abbrev TF1 := Rho → Store → R Bool
abbrev AF := Rho → Store → R (List D)
def DT (cm : Str → Option Value) (W : WX) (X : Cx) (e : Expr) (f : TF1) : Prop := PT X e (LiftT cm X.K W f)
def DW (cm : Str → Option Value) (W : WX) (X : Cx) (e : Expr) (f : TF1) : Prop := PW X e (LiftT cm X.K W f)
def DA (cm : Str → Option Value) (W : WX) (X : Cx) (es : List Expr) (f : AF) : Prop := PA X es (LiftA cm X.K W f)
def DS (cm : Str → Option Value) (W : WX) (X : Cx) (s : Stmt) (f : SF) : Prop := PS X s (LiftS cm X.K W f)
def DSs (cm : Str → Option Value) (W : WX) (X : Cx) (s : List Stmt) (f : SF) : Prop := PSs X s (LiftS cm X.K W f)
section
variable {X : Cx}
theorem peI {e : Expr} {t t' : TE} (h : PE X e t) (i : ∀ s H Q, t' s H Q → t s H Q) : PE X e t' := ⟨fun pins s σ H Q I q => h.run pins s σ H Q I (i _ _ _ q)⟩
theorem ptI {e : Expr} {t t' : TT} (h : PT X e t) (i : ∀ s H Q, t' s H Q → t s H Q) : PT X e t' := ⟨fun pins s σ H Q I q => h.run pins s σ H Q I (i _ _ _ q)⟩
theorem pwI {e : Expr} {t t' : TT} (h : PW X e t) (i : ∀ s H Q, t' s H Q → t s H Q) : PW X e t' := ⟨fun wh pins s σ H Q I q => h.run wh pins s σ H Q I (i _ _ _ q)⟩
theorem paI {e : List Expr} {t t' : TA} (h : PA X e t) (i : ∀ s H Q, t' s H Q → t s H Q) : PA X e t' := ⟨fun pos pins s σ H Q I q => h.run pos pins s σ H Q I (i _ _ _ q)⟩
theorem psI {e : Stmt} {t t' : TS} (h : PS X e t) (i : ∀ D s H, t' D s H → t D s H) : PS X e t' := ⟨fun pins s σ H Q I q => h.run pins s σ H Q I (i _ _ _ q)⟩
theorem pssI {e : List Stmt} {t t' : TS} (h : PSs X e t) (i : ∀ D s H, t' D s H → t D s H) : PSs X e t' := ⟨fun pins s σ H Q I q => h.run pins s σ H Q I (i _ _ _ q)⟩
end

/-! ### the functions -/
def eVar (i : Nat) : EF := fun p st => match p[i]? with
  | some (some d) => .ok d st
  | _ => .bad
def eC (d : D) : EF := fun _ st => .ok d st
def eOp (g : D → D → Store → Option (D × Store)) (a b : EF) : EF := fun p st => bindR (a p st) fun x st1 => bindR (b p st1) fun y st2 => optR (g x y st2)
def eUn (g : D → Store → Option (D × Store)) (a : EF) : EF := fun p st => bindR (a p st) fun x st1 => optR (g x st1)
def blR (x : D) (st : Store) : R Bool := match x with
  | .bl b => .ok b st
  | _ => .bad
/-- an expression as a test -/
def tVal (a : EF) : TF1 := fun p st => bindR (a p st) blR
def tNotF (a : TF1) : TF1 := fun p st => bindR (a p st) fun b st1 => .ok (!b) st1
def tAndF (a b : TF1) : TF1 := fun p st => bindR (a p st) fun x st1 => if x = true then b p st1 else .ok false st1
def tOrF (a b : TF1) : TF1 := fun p st => bindR (a p st) fun x st1 => if x = true then .ok true st1 else b p st1
def eNot (a : EF) : EF := fun p st => bindR (tVal a p st) fun b st1 => .ok (.bl (!b)) st1
def eAnd (a b : EF) : EF := fun p st => bindR (tVal a p st) fun x st1 => if x = true then b p st1 else .ok (.bl false) st1
def eOr (a b : EF) : EF := fun p st => bindR (tVal a p st) fun x st1 => if x = true then .ok (.bl true) st1 else b p st1
def eIf (t : TF1) (a b : EF) : EF := fun p st => bindR (t p st) fun x st1 => if x = true then a p st1 else b p st1
def eChain (g g' : D → D → Store → Option (D × Store)) (a b c : EF) : EF := fun p st => bindR (a p st) fun x st1 => bindR (b p st1) fun y st2 =>
  bindR (optR (g x y st2)) fun z st3 => bindR (blR z st3) fun k st4 => if k = true then bindR (c p st4) fun w st5 => optR (g' y w st5) else .ok (.bl false) st4
def aNil : AF := fun _ st => .ok [] st
def aCons (a : EF) (r : AF) : AF := fun p st => bindR (a p st) fun x st1 => bindR (r p st1) fun xs st2 => .ok (x :: xs) st2
def alloc (o : O) (st : Store) : Option (D × Store) := some (.ref st.length, st ++ [o])
def mkTup (xs : List D) (st : Store) : Option (D × Store) := if xs.length ≤ LIM then some (.tup xs, st) else none
def mkLst (xs : List D) (st : Store) : Option (D × Store) := if xs.length ≤ LIM then alloc (.lst xs) st else none
/-- a call by the values of its arguments, that raises nothing -/
def eB (g : List D → Store → Option (D × Store)) (a : AF) : EF := fun p st => bindR (a p st) fun xs st1 => optR (g xs st1)
/-- a call by the values of its arguments -/
abbrev FnF := List D → Store → R D
def eCall (F : FnF) (a : AF) : EF := fun p st => bindR (a p st) fun xs st1 => F xs st1
/-- a method's call -/
def eM (g : D → List D → Store → Option (D × Store)) (o : EF) (a : AF) : EF := fun p st => bindR (o p st) fun x st1 => bindR (a p st1) fun xs st2 => optR (g x xs st2)

/-! ### operations on values -/
def OpS (X : Cx) (f : Value → Value → Sem Value) (g : D → D → Store → Option (D × Store)) : Prop :=
  OpR X f fun x y H Q => ∃ m st dx dy, RSt X.K m H st ∧ RV X.K m H dx x ∧ RV X.K m H dy y ∧ PostO X.K (RV X.K) m H (g dx dy st) Q
def UnS (X : Cx) (f : Value → Sem Value) (g : D → Store → Option (D × Store)) : Prop :=
  UnR X f fun x H Q => ∃ m st dx, RSt X.K m H st ∧ RV X.K m H dx x ∧ PostO X.K (RV X.K) m H (g dx st) Q
def CallS (X : Cx) (f : Value) (g : List D → Store → Option (D × Store)) : Prop :=
  CallR X f fun xs H Q => ∃ m st ds, RSt X.K m H st ∧ RVs X.K m H ds xs ∧ PostO X.K (RV X.K) m H (g ds st) Q
def MtS (X : Cx) (id : String) (g : D → List D → Store → Option (D × Store)) : Prop :=
  MtR X id fun x xs H Q => ∃ m st dx ds, RSt X.K m H st ∧ RV X.K m H dx x ∧ RVs X.K m H ds xs ∧ PostO X.K (RV X.K) m H (g dx ds st) Q
def IxS (X : Cx) (g : D → D → Store → Option (D × Store)) : Prop :=
  IxR X fun x y H Q => ∃ m st dx dy, RSt X.K m H st ∧ RV X.K m H dx x ∧ RV X.K m H dy y ∧ PostO X.K (RV X.K) m H (g dx dy st) Q
section
variable {K : PySem.W.Frag} {m : List Addr} {H : Hp} {st : Store} {α β : Type} {rel : List Addr → Hp → α → β → Prop}
theorem postO_same {Q : β → Hp → Prop} {d : α} {v : β} (rs : RSt K m H st) (h : PostO K rel m H (some (d, st)) Q) (r : rel m H d v) : Q v H := h m H v Ext.refl rs r
theorem postO_alloc {Q : V → Hp → Prop} {o : O} {p : Addr} {ho : HO} (rs : RSt K m H st) (h : PostO K (RV K) m H (alloc o st) Q) (hp : H p = none) (new : RO K (m ++ [p]) (upd H p ho) p o) : Q (.ref p) (upd H p ho) :=
  h _ _ _ (ext_push hp) (rs.push hp new) (by simp only [RV]; exact ⟨p, rfl, by rw [← rs.len, List.getElem?_concat_length]⟩)
theorem ext0_push {p : Addr} {o : HO} (hp : H p = none) : Ext0 m H (m ++ [p]) (upd H p o) := ext0_touch fun u h => by rw [hp] at h; cases h
theorem postO_lst {Q : V → Hp → Prop} {ds : List D} {vs : List V} {p : Addr} (rs : RSt K m H st) (h : PostO K (RV K) m H (alloc (.lst ds) st) Q) (hp : H p = none) (r : RVs K m H ds vs) : Q (.ref p) (upd H p (.lst vs)) :=
  postO_alloc rs h hp ⟨vs, upd_same, RVs.ext0 (ext0_push hp) _ r⟩
theorem postO_tup {Q : V → Hp → Prop} {ds : List D} {vs : List V} {p : Addr} (rs : RSt K m H st) (h : PostO K (RV K) m H (some (.tup ds, st)) Q) (hp : H p = none) (r : RVs K m H ds vs) : Q (.ref p) (upd H p (.tup vs)) :=
  h _ _ _ (ext_fresh hp) (rs.beside hp) (by simp only [RV]; exact ⟨p, vs, rfl, .inl (.inl upd_same), RVs.ext rs (ext_fresh hp) _ r⟩)
theorem postO_write {Q : β → Hp → Prop} {l : Nat} {p : Addr} {ho : HO} {o : O} {d : α} {v : β} (rs : RSt K m H st) (h : PostO K rel m H (some (d, st.set l o)) Q) (hl : m[l]? = some p) (new : RO K m (upd H p ho) p o) (r : rel m (upd H p ho) d v) : Q v (upd H p ho) :=
  h _ _ _ (ext_write (List.mem_of_getElem? hl)) (rs.write hl new) r
theorem RSt.lst {l : Nat} {a : Addr} {ds : List D} (rs : RSt K m H st) (hl : m[l]? = some a) (h : st[l]? = some (.lst ds)) : ∃ vs, H a = some (.lst vs) ∧ RVs K m H ds vs := rs.ob l a _ hl h
theorem RSt.dic {l : Nat} {a : Addr} {ds : List (Key × D)} (rs : RSt K m H st) (hl : m[l]? = some a) (h : st[l]? = some (.dic ds)) : ∃ ws, H a = some (.dK ws) ∧ RKs K m H ds ws := rs.ob l a _ hl h
end

/-! ### expressions -/
section
variable {cm : Str → Option Value} {W : WX} {X : Cx} {a b c e : Expr} {fa fb fc : EF} {pos : Pos}
theorem de_var (i : Nat) {x : Str} (hN : X.N[i]? = some x := by rfl) (hv : Vis X.env.scope x := by first | exact Or.inl rfl | exact Or.inr (Or.inl rfl) | exact Or.inr (Or.inr rfl)) (hd : (x == ("__debug__" : Str)) = false := by decide)
    (hcd : (x == ("__classdict__" : Str)) = false := by decide) : DE cm W X (.Name x pos) (eVar i) := peI (pe_var hN hv hd hcd) fun s H Q h => by
  obtain ⟨m, p, st, re, rs, h⟩ := h
  unfold eVar at h
  cases q : p[i]? with
  | none => rw [q] at h; exact h.elim
  | some o =>
    cases o with
    | none => rw [q] at h; exact h.elim
    | some d =>
      rw [q] at h
      obtain ⟨v, e1, e2⟩ := re i d q
      exact ⟨v, e1, h m H v Ext.refl rs e2⟩
/-- a constant -/
theorem de_c {v : V} {d : D} (h : PE X e (tC v)) (r : ∀ m H, RV X.K m H d v) : DE cm W X e (eC d) := peI h fun s H Q h => by
  obtain ⟨m, p, st, re, rs, h⟩ := h
  exact h m H v Ext.refl rs (r m H)
theorem de_int {i j} : DE cm W X (.Constant (.int i) j pos) (eC (.int i)) := de_c pe_int fun _ _ => by simp [RV]
theorem de_bl {i j} : DE cm W X (.Constant (.bool i) j pos) (eC (.bl i)) := de_c pe_bl fun _ _ => by simp [RV]
theorem de_non {j} : DE cm W X (.Constant .none j pos) (eC .non) := de_c pe_non fun _ _ => by simp [RV]
theorem de_str {i j} : DE cm W X (.Constant (.str i) j pos) (eC (.str i)) := de_c pe_str fun _ _ => by simp [RV]
theorem de_op {op : Operator} {g : D → D → Store → Option (D × Store)} (ho : OpS X (binaryOp op) g) (ha : DE cm W X a fa) (hb : DE cm W X b fb) : DE cm W X (.BinOp a op b pos) (eOp g fa fb) :=
  peI (pe_op ho ha hb) fun s H Q h => by
    obtain ⟨m, p, st, re, rs, h⟩ := h
    refine ⟨m, p, st, re, rs, Post.split h fun d1 st1 m1 H1 v1 e1 x1 rs1 r1 h1 => ?_⟩
    refine ⟨m1, p, st1, re.ext rs x1, rs1, Post.split h1 fun d2 st2 m2 H2 v2 e2 x2 rs2 r2 h2 => ?_⟩
    exact ⟨m2, st2, d1, d2, rs2, RV.ext rs1 x2 _ r1, r2, PostO.of h2⟩
theorem de_cmp {op : CmpOp} {g : D → D → Store → Option (D × Store)} (ho : OpS X (compareOp op) g) (ha : DE cm W X a fa) (hb : DE cm W X b fb) (hm : behindInMarks op b = false) : DE cm W X (.Compare a [op] [b] pos) (eOp g fa fb) :=
  peI (pe_cmpR ho ha hb hm) fun s H Q h => by
    obtain ⟨m, p, st, re, rs, h⟩ := h
    refine ⟨m, p, st, re, rs, Post.split h fun d1 st1 m1 H1 v1 e1 x1 rs1 r1 h1 => ?_⟩
    refine ⟨m1, p, st1, re.ext rs x1, rs1, Post.split h1 fun d2 st2 m2 H2 v2 e2 x2 rs2 r2 h2 => ?_⟩
    exact ⟨m2, st2, d1, d2, rs2, RV.ext rs1 x2 _ r1, r2, PostO.of h2⟩
theorem de_un {op : UnaryOp} {g : D → Store → Option (D × Store)} (ho : UnS X (unaryOp op) g) (ha : DE cm W X a fa) : DE cm W X (.UnaryOp op a pos) (eUn g fa) :=
  peI (pe_un ho ha) fun s H Q h => by
    obtain ⟨m, p, st, re, rs, h⟩ := h
    refine ⟨m, p, st, re, rs, Post.split h fun d1 st1 m1 H1 v1 e1 x1 rs1 r1 h1 => ?_⟩
    exact ⟨m1, st1, d1, rs1, r1, PostO.of h1⟩
theorem blR_inv {K : PySem.W.Frag} {Wv : Value → Option Addr → Hp → Prop} {m : List Addr} {H : Hp} {d : D} {st : Store} {v : V} {α β : Type} {rel : List Addr → Hp → α → β → Prop} {g : Bool → Store → R α} {Q : β → Hp → Prop} (r : RV K m H d v)
    (h : Post cm K rel Wv m H (bindR (blR d st) g) Q) : ∃ k, v = .bl k ∧ Post cm K rel Wv m H (g k st) Q := by
  cases d with
  | bl k => exact ⟨k, by simpa [RV] using r, h⟩
  | non => exact h.elim
  | int _ => exact h.elim
  | str _ => exact h.elim
  | tup _ => exact h.elim
  | ref _ => exact h.elim
  | scr _ => exact h.elim
  | exn => exact h.elim
theorem bindR_assoc {α β γ : Type} (r : R α) (f : α → Store → R β) (g : β → Store → R γ) : bindR (bindR r f) g = bindR r fun x st => bindR (f x st) g := by
  cases r <;> rfl
theorem dt_of {t : TE} {f : EF} (h : PT X e (fun s H Q => LiftE cm X.K W f s H fun x H' => ∃ k, x = .bl k ∧ Q k H')) : DT cm W X e (tVal f) :=
  ptI h fun s H Q h => by
    obtain ⟨m, p, st, re, rs, h⟩ := h
    refine ⟨m, p, st, re, rs, Post.split h fun d1 st1 m1 H1 v1 e1 x1 rs1 r1 h1 => ?_⟩
    cases d1 with
    | bl k => exact ⟨k, by simpa [RV] using r1, h1 m1 H1 k Ext.refl rs1 rfl⟩
    | non => exact h1.elim
    | int _ => exact h1.elim
    | str _ => exact h1.elim
    | tup _ => exact h1.elim
    | ref _ => exact h1.elim
    | scr _ => exact h1.elim
    | exn => exact h1.elim
/-- any expression with a bool as its value, as a test -/
theorem dt_val (h : DE cm W X e fa) (he : ∀ whole, isTrue e X.env whole = (do let v ← whole; standAt e.pos; holding [v] (truthy v)) := by intro _; rfl) : DT cm W X e (tVal fa) := dt_of (t := LiftE cm X.K W fa) (pt_val h he)
theorem dt_cmp {op : CmpOp} {g : D → D → Store → Option (D × Store)} (ho : OpS X (compareOp op) g) (ha : DE cm W X a fa) (hb : DE cm W X b fb) (hm : behindInMarks op b = false) : DT cm W X (.Compare a [op] [b] pos) (tVal (eOp g fa fb)) :=
  dt_of (t := LiftE cm X.K W fa) (ptI (pt_cmpR ho ha hb hm) fun s H Q h => by
    obtain ⟨m, p, st, re, rs, h⟩ := h
    refine ⟨m, p, st, re, rs, Post.split h fun d1 st1 m1 H1 v1 e1 x1 rs1 r1 h1 => ?_⟩
    refine ⟨m1, p, st1, re.ext rs x1, rs1, Post.split h1 fun d2 st2 m2 H2 v2 e2 x2 rs2 r2 h2 => ?_⟩
    exact ⟨m2, st2, d1, d2, rs2, RV.ext rs1 x2 _ r1, r2, PostO.of h2⟩)
theorem chain_split {r r' : R2} {g g' : D → D → Store → Option (D × Store)} {s : L2.St} {H : Hp} {Q : VK}
    (h1 : ∀ x y H Q m st dx dy, RSt X.K m H st → RV X.K m H dx x → RV X.K m H dy y → PostO X.K (RV X.K) m H (g dx dy st) Q → r x y H Q)
    (h2 : ∀ x y H Q m st dx dy, RSt X.K m H st → RV X.K m H dx x → RV X.K m H dy y → PostO X.K (RV X.K) m H (g' dx dy st) Q → r' x y H Q)
    (h : LiftE cm X.K W (eChain g g' fa fb fc) s H Q) : tChain r r' (LiftE cm X.K W fa) (LiftE cm X.K W fb) (LiftE cm X.K W fc) s H Q := by
  obtain ⟨m, p, st, re, rs, h⟩ := h
  refine ⟨m, p, st, re, rs, Post.split h fun d1 st1 m1 H1 v1 e1 x1 rs1 r1 q1 => ?_⟩
  refine ⟨m1, p, st1, re.ext rs x1, rs1, Post.split q1 fun d2 st2 m2 H2 v2 e2 x2 rs2 r2 q2 => ?_⟩
  refine h1 _ _ _ _ m2 st2 d1 d2 rs2 (RV.ext rs1 x2 _ r1) r2 (PostO.of (Post.split (rel := RV X.K) q2 fun d3 st3 m3 H3 v3 e3 x3 rs3 r3 q3 => ?_))
  obtain ⟨k, rfl, q3⟩ := blR_inv r3 q3
  refine ⟨k, rfl, ?_⟩
  cases k with
  | false => exact q3 m3 H3 _ Ext.refl rs3 (by simp [RV])
  | true =>
    refine ⟨m3, p, st3, ((re.ext rs x1).ext rs1 x2).ext rs2 x3, rs3, Post.split q3 fun d4 st4 m4 H4 v4 e4 x4 rs4 r4 q4 => ?_⟩
    exact h2 _ _ _ _ m4 st4 d2 d4 rs4 (RV.ext rs3 x4 _ (RV.ext rs2 x3 _ r2)) r4 (PostO.of q4)
theorem de_chain {op op' : CmpOp} {g g' : D → D → Store → Option (D × Store)} (ho : OpS X (compareOp op) g) (ho' : OpS X (compareOp op') g') (ha : DE cm W X a fa) (hb : DE cm W X b fb) (hc : DE cm W X c fc)
    (hm : lastMarks [op, op'] [b, c] = false := by with_unfolding_all rfl) : DE cm W X (.Compare a [op, op'] [b, c] pos) (eChain g g' fa fb fc) :=
  peI (pe_chain ho ho' ha hb hc hm) fun s H Q h => chain_split (fun x y H Q m st dx dy h1 h2 h3 h4 => ⟨m, st, dx, dy, h1, h2, h3, h4⟩) (fun x y H Q m st dx dy h1 h2 h3 h4 => ⟨m, st, dx, dy, h1, h2, h3, h4⟩) h
theorem dt_chain {op op' : CmpOp} {g g' : D → D → Store → Option (D × Store)} (ho : OpS X (compareOp op) g) (ho' : OpS X (compareOp op') g') (ha : DE cm W X a fa) (hb : DE cm W X b fb) (hc : DE cm W X c fc)
    (hm : lastMarks [op, op'] [b, c] = false := by with_unfolding_all rfl) : DT cm W X (.Compare a [op, op'] [b, c] pos) (tVal (eChain g g' fa fb fc)) :=
  dt_of (t := LiftE cm X.K W fa) (ptI (pt_chain ho ho' ha hb hc hm) fun s H Q h => chain_split (fun x y H Q m st dx dy h1 h2 h3 h4 => ⟨m, st, dx, dy, h1, h2, h3, h4⟩) (fun x y H Q m st dx dy h1 h2 h3 h4 => ⟨m, st, dx, dy, h1, h2, h3, h4⟩) h)
/-! tests -/
variable {ta tb tc : TF1} {rest : List Expr}
theorem dt_not (h : DT cm W X a ta) : DT cm W X (.UnaryOp .Not a pos) (tNotF ta) := ptI (pt_not h) fun s H Q h => by
  obtain ⟨m, p, st, re, rs, h⟩ := h
  exact ⟨m, p, st, re, rs, Post.split h fun d1 st1 m1 H1 v1 e1 x1 rs1 r1 h1 => h1 m1 H1 _ Ext.refl rs1 (by rw [r1])⟩
theorem dw_and1 (h : DT cm W X a ta) : DW cm W X (.BoolOp .And [a] pos) ta := pw_and1 h
theorem dw_or1 (h : DT cm W X a ta) : DW cm W X (.BoolOp .Or [a] pos) ta := pw_or1 h
theorem dw_and (ha : DT cm W X a ta) (hb : DW cm W X (.BoolOp .And (b :: rest) pos) tb) : DW cm W X (.BoolOp .And (a :: b :: rest) pos) (tAndF ta tb) := pwI (pw_and ha hb) fun s H Q h => by
  obtain ⟨m, p, st, re, rs, h⟩ := h
  refine ⟨m, p, st, re, rs, Post.split h fun d1 st1 m1 H1 v1 e1 x1 rs1 r1 h1 => ?_⟩
  subst r1
  cases d1 with
  | true => exact ⟨m1, p, st1, re.ext rs x1, rs1, h1⟩
  | false => exact h1 m1 H1 _ Ext.refl rs1 rfl
theorem dw_or (ha : DT cm W X a ta) (hb : DW cm W X (.BoolOp .Or (b :: rest) pos) tb) : DW cm W X (.BoolOp .Or (a :: b :: rest) pos) (tOrF ta tb) := pwI (pw_or ha hb) fun s H Q h => by
  obtain ⟨m, p, st, re, rs, h⟩ := h
  refine ⟨m, p, st, re, rs, Post.split h fun d1 st1 m1 H1 v1 e1 x1 rs1 r1 h1 => ?_⟩
  subst r1
  cases d1 with
  | false => exact ⟨m1, p, st1, re.ext rs x1, rs1, h1⟩
  | true => exact h1 m1 H1 _ Ext.refl rs1 rfl
theorem dt_w (h : DW cm W X a ta) : DT cm W X a ta := PW.pt h
/-! values -/
theorem de_one {op} (h : DE cm W X a fa) : DE cm W X (.BoolOp op [a] pos) fa := pe_one h
theorem de_and (ha : DE cm W X a fa) (hb : DE cm W X (.BoolOp .And (b :: rest) pos) fb) : DE cm W X (.BoolOp .And (a :: b :: rest) pos) (eAnd fa fb) := peI (pe_and ha hb) fun s H Q h => by
  obtain ⟨m, p, st, re, rs, h⟩ := h
  rw [eAnd, tVal, bindR_assoc] at h
  refine ⟨m, p, st, re, rs, Post.split h fun d1 st1 m1 H1 v1 e1 x1 rs1 r1 h1 => ?_⟩
  obtain ⟨k, rfl, h1⟩ := blR_inv r1 h1
  refine ⟨k, rfl, ?_⟩
  cases k with
  | true => exact ⟨m1, p, st1, re.ext rs x1, rs1, h1⟩
  | false => exact h1 m1 H1 _ Ext.refl rs1 (by simp [RV])
theorem de_or (ha : DE cm W X a fa) (hb : DE cm W X (.BoolOp .Or (b :: rest) pos) fb) : DE cm W X (.BoolOp .Or (a :: b :: rest) pos) (eOr fa fb) := peI (pe_or ha hb) fun s H Q h => by
  obtain ⟨m, p, st, re, rs, h⟩ := h
  rw [eOr, tVal, bindR_assoc] at h
  refine ⟨m, p, st, re, rs, Post.split h fun d1 st1 m1 H1 v1 e1 x1 rs1 r1 h1 => ?_⟩
  obtain ⟨k, rfl, h1⟩ := blR_inv r1 h1
  refine ⟨k, rfl, ?_⟩
  cases k with
  | false => exact ⟨m1, p, st1, re.ext rs x1, rs1, h1⟩
  | true => exact h1 m1 H1 _ Ext.refl rs1 (by simp [RV])
theorem de_not (ha : DE cm W X a fa) : DE cm W X (.UnaryOp .Not a pos) (eNot fa) := peI (pe_not ha) fun s H Q h => by
  obtain ⟨m, p, st, re, rs, h⟩ := h
  rw [eNot, tVal, bindR_assoc] at h
  refine ⟨m, p, st, re, rs, Post.split h fun d1 st1 m1 H1 v1 e1 x1 rs1 r1 h1 => ?_⟩
  obtain ⟨k, rfl, h1⟩ := blR_inv r1 h1
  exact ⟨k, rfl, h1 m1 H1 _ Ext.refl rs1 (by simp [RV])⟩
theorem de_if (hc : DT cm W X c tc) (ha : DE cm W X a fa) (hb : DE cm W X b fb) : DE cm W X (.IfExp c a b pos) (eIf tc fa fb) := peI (pe_ifExp hc ha hb) fun s H Q h => by
  obtain ⟨m, p, st, re, rs, h⟩ := h
  refine ⟨m, p, st, re, rs, Post.split h fun d1 st1 m1 H1 v1 e1 x1 rs1 r1 h1 => ?_⟩
  subst r1
  cases d1 with
  | true => exact ⟨m1, p, st1, re.ext rs x1, rs1, h1⟩
  | false => exact ⟨m1, p, st1, re.ext rs x1, rs1, h1⟩
/-! arguments and displays -/
variable {es : List Expr} {fs : AF}
theorem da_nil : DA cm W X [] aNil := paI pa_nil fun s H Q h => by
  obtain ⟨m, p, st, re, rs, h⟩ := h
  exact h m H [] Ext.refl rs RVs.nil
theorem da_cons (ha : DE cm W X a fa) (hr : DA cm W X es fs) (hs : starEach (a :: es) X.env = (false, eval a X.env) :: starEach es X.env := by rfl) : DA cm W X (a :: es) (aCons fa fs) := paI (pa_cons ha hr hs) fun s H Q h => by
  obtain ⟨m, p, st, re, rs, h⟩ := h
  refine ⟨m, p, st, re, rs, Post.split h fun d1 st1 m1 H1 v1 e1 x1 rs1 r1 h1 => ?_⟩
  refine ⟨m1, p, st1, re.ext rs x1, rs1, Post.split h1 fun d2 st2 m2 H2 v2 e2 x2 rs2 r2 h2 => ?_⟩
  exact h2 m2 H2 _ Ext.refl rs2 (RVs.cons (RV.ext rs1 x2 _ r1) r2)
theorem ofLim {n : Nat} (h : n ≤ LIM) : n ≤ sizeLine := by rw [lim_eq]; exact h
theorem de_tup {x1} (h : DA cm W X es fs) : DE cm W X (.Tuple es x1 pos) (eB mkTup fs) := peI (pe_tup h) fun s H Q h => by
  obtain ⟨m, p, st, re, rs, h⟩ := h
  refine ⟨m, p, st, re, rs, Post.split h fun d1 st1 m1 H1 v1 e1 x1 rs1 r1 h1 => ?_⟩
  have h1 := PostO.of h1
  unfold mkTup at h1
  split at h1
  · rename_i hz
    exact ⟨by rw [← r1.len]; exact ofLim hz, fun q hq => postO_tup rs1 h1 hq r1⟩
  · exact h1.elim
theorem de_lst (h : DA cm W X es fs) : DE cm W X (.List es pos) (eB mkLst fs) := peI (pe_lst h) fun s H Q h => by
  obtain ⟨m, p, st, re, rs, h⟩ := h
  refine ⟨m, p, st, re, rs, Post.split h fun d1 st1 m1 H1 v1 e1 x1 rs1 r1 h1 => ?_⟩
  have h1 := PostO.of h1
  unfold mkLst at h1
  split at h1
  · rename_i hz
    exact ⟨by rw [← r1.len]; exact ofLim hz, fun q hq => postO_lst rs1 h1 hq r1⟩
  · exact h1.elim
/-! calls of what is built in -/
theorem lift_call {g : List D → Store → Option (D × Store)} {ta : TA} {s : L2.St} {H : Hp} {Q : VK} (h : LiftE cm X.K W (eB g fs) s H Q) :
    LiftA cm X.K W fs s H fun xs H1 => ∃ m st ds, RSt X.K m H1 st ∧ RVs X.K m H1 ds xs ∧ PostO X.K (RV X.K) m H1 (g ds st) Q := by
  obtain ⟨m, p, st, re, rs, h⟩ := h
  refine ⟨m, p, st, re, rs, Post.split h fun d1 st1 m1 H1 v1 e1 x1 rs1 r1 h1 => ?_⟩
  exact ⟨m1, st1, d1, rs1, r1, PostO.of h1⟩
theorem de_callB {g : List D → Store → Option (D × Store)} {id : String} {x : Str} {pf : Pos} (hc : CallS X (.builtin id) g) (hg : Gl X x) (hm : X.mg x = none) (hv : bootBuiltins x = some (.builtin id)) (ha : DA cm W X (e :: es) fs) (hn : x ≠ "__name__" := by decide) (hdb : (x == ("__debug__" : Str)) = false := by decide)
    (he : starEach (e :: es) X.env = (false, eval e X.env) :: starEach es X.env := by rfl) (hpl : (backTo pos (starEach es X.env)).any (·.1) = false := by rfl) : DE cm W X (.Call (.Name x pf) (e :: es) [] pos) (eB g fs) :=
  peI (pe_callB hc hg hm hv ha hn hdb he hpl) fun s H Q h => lift_call (ta := LiftA cm X.K W fs) h
theorem de_callTy {g : List D → Store → Option (D × Store)} {T : String} {x : Str} {pf : Pos} (hc : CallS X (.type T) g) (hg : Gl X x) (hm : X.mg x = none) (hv : bootBuiltins x = some (.type T)) (ha : DA cm W X (e :: es) fs) (hn : x ≠ "__name__" := by decide) (hdb : (x == ("__debug__" : Str)) = false := by decide)
    (he : starEach (e :: es) X.env = (false, eval e X.env) :: starEach es X.env := by rfl) (hpl : (backTo pos (starEach es X.env)).any (·.1) = false := by rfl) : DE cm W X (.Call (.Name x pf) (e :: es) [] pos) (eB g fs) :=
  peI (pe_callTy hc hg hm hv ha hn hdb he hpl) fun s H Q h => lift_call (ta := LiftA cm X.K W fs) h
/-! subscripts -/
theorem de_ix {g : D → D → Store → Option (D × Store)} (hr : IxS X g) (ha : DE cm W X a fa) (hb : DE cm W X b fb) (hs : PlainIx b := by intro _ _; rfl) : DE cm W X (.Subscript a b pos) (eOp g fa fb) :=
  peI (pe_ix hr ha hb hs) fun s H Q h => by
    obtain ⟨m, p, st, re, rs, h⟩ := h
    refine ⟨m, p, st, re, rs, Post.split h fun d1 st1 m1 H1 v1 e1 x1 rs1 r1 h1 => ?_⟩
    refine ⟨m1, p, st1, re.ext rs x1, rs1, Post.split h1 fun d2 st2 m2 H2 v2 e2 x2 rs2 r2 h2 => ?_⟩
    exact ⟨m2, st2, d1, d2, rs2, RV.ext rs1 x2 _ r1, r2, PostO.of h2⟩
end
end Mi
set_option Elab.async false
set_option linter.all false
set_option maxRecDepth 100000
set_option maxHeartbeats 4000000
/-! Mi2: what is walked, targets, comprehensions, statements, loops. -/
namespace Mi
open PySem PySem.Spec L2
open PyProof.Rows hiding St

/-! ### what is walked -/
structure IT where
  items : List D
  still : Store → Prop
/-- J yields the items, while the store is as asked -/
def ItRel (K : PySem.W.Frag) (m1 : List Addr) (H1 : Hp) (it : IT) (J : It) : Prop :=
  (∀ i d m H st, it.items[i]? = some d → Ext m1 H1 m H → RSt K m H st → it.still st → J.go i H ∧ ∀ x H', J.yld i H x H' → Ext m H m H' ∧ RSt K m H' st ∧ RV K m H' d x) ∧
  (∀ m H st, Ext m1 H1 m H → RSt K m H st → it.still st → J.stop it.items.length H)
abbrev LiftI (cm : Str → Option Value) (K : PySem.W.Frag) := LiftG cm K (ItRel K)
abbrev IF := Rho → Store → R IT
def DI (cm : Str → Option Value) (W : WX) (X : Cx) (tg e : Expr) (f : IF) : Prop := PI X tg e (LiftI cm X.K W f)
/-- what stands in a list, tuple, text or the script -/
def itOf (d : D) (st : Store) : R IT := match d with
  | .tup ds => .ok ⟨ds, fun _ => True⟩ st
  | .scr ns => .ok ⟨ns.map .int, fun _ => True⟩ st
  | .str x => .ok ⟨x.cps.toList.map fun c => .str ⟨#[c]⟩, fun _ => True⟩ st
  | .ref l => match st[l]? with
    | some (.lst ds) => .ok ⟨ds, fun st' => st'[l]? = some (.lst ds)⟩ st
    | _ => .bad
  | _ => .bad
def iSeq (a : EF) : IF := fun p st => bindR (a p st) itOf
def rgItems (lo : Int) (n : Nat) : List D := (List.range n).map fun i => .int (lo + (i : Nat))
def iRange1 (a : AF) : IF := fun p st => bindR (a p st) fun xs st1 => match xs with
  | [.int n] => if -(2 ^ 62) ≤ n ∧ n < 2 ^ 62 then .ok ⟨rgItems 0 n.toNat, fun _ => True⟩ st1 else .bad
  | _ => .bad
def iRange2 (a : AF) : IF := fun p st => bindR (a p st) fun xs st1 => match xs with
  | [.int i, .int j] => if -(2 ^ 62) ≤ i ∧ i < 2 ^ 62 ∧ -(2 ^ 62) ≤ j ∧ j < 2 ^ 62 then .ok ⟨rgItems i (j - i).toNat, fun _ => True⟩ st1 else .bad
  | _ => .bad
def enItems (ds : List D) : List D := (List.range ds.length).map fun i => .tup [.int (i : Nat), ds.getD i .non]
def iEnumF (a : AF) : IF := fun p st => bindR (a p st) fun xs st1 => match xs with
  | [.ref l] => match st1[l]? with
    | some (.lst ds) => .ok ⟨enItems ds, fun st' => st'[l]? = some (.lst ds)⟩ st1
    | _ => .bad
  | _ => .bad
section
variable {K : PySem.W.Frag} {m : List Addr} {H : Hp}
theorem itrel_list {l : Nat} {a : Addr} {ds : List D} (hl : m[l]? = some a) : ItRel K m H ⟨ds, fun st' => st'[l]? = some (.lst ds)⟩ (Itl K a) := by
  refine ⟨fun i d m' H' st e x rs h => ?_, fun m' H' st x rs h => ?_⟩
  · obtain ⟨vs, h1, h2⟩ := rs.lst (x.idx hl) h
    obtain ⟨v, e1, e2⟩ := h2.get e
    refine ⟨⟨vs, v, SqL.of h1, e1⟩, fun y H2 q => ?_⟩
    obtain ⟨rfl, q⟩ := q
    have := q vs (SqL.of h1)
    rw [e1] at this; cases this
    exact ⟨Ext.refl, rs, e2⟩
  · obtain ⟨vs, h1, h2⟩ := rs.lst (x.idx hl) h
    exact ⟨vs, SqL.of h1, by rw [h2.len]; exact Nat.le_refl _⟩
theorem itrel_scr {st0 : Store} {a : Addr} {ns : List Int} (rs0 : RSt K m H st0) (h : FzL K H a (ns.map V.int)) : ItRel K m H ⟨ns.map .int, fun _ => True⟩ (Itl K a) := by
  refine ⟨fun i d m' H' st e x rs _ => ?_, fun m' H' st x rs _ => ?_⟩
  · have h1 := (h.ext (x.to0 rs0)).seq
    rw [List.getElem?_map] at e
    obtain ⟨n, en, rfl⟩ := Option.map_eq_some_iff.mp e
    have e1 : (ns.map V.int)[i]? = some (.int n) := by rw [List.getElem?_map, en]; rfl
    refine ⟨⟨_, _, h1, e1⟩, fun y H2 q => ?_⟩
    obtain ⟨rfl, q⟩ := q
    have := q _ h1
    rw [e1] at this; cases this
    exact ⟨Ext.refl, rs, by simp [RV]⟩
  · exact ⟨_, (h.ext (x.to0 rs0)).seq, by simp⟩
theorem itrel_tup {st0 : Store} {a : Addr} {ds : List D} {vs : List V} (rs0 : RSt K m H st0) (h : SqT K H a vs) (r : RVs K m H ds vs) : ItRel K m H ⟨ds, fun _ => True⟩ (Itt K a) := by
  refine ⟨fun i d m' H' st e x rs _ => ?_, fun m' H' st x rs _ => ?_⟩
  · have h1 := SqT.ext (x.to0 rs0) h
    obtain ⟨v, e1, e2⟩ := (RVs.ext rs0 x _ r).get e
    refine ⟨⟨_, _, h1, e1⟩, fun y H2 q => ?_⟩
    obtain ⟨rfl, q⟩ := q
    have := q _ h1
    rw [e1] at this; cases this
    exact ⟨Ext.refl, rs, e2⟩
  · exact ⟨_, SqT.ext (x.to0 rs0) h, by rw [r.len]; exact Nat.le_refl _⟩
theorem itrel_str {z : Str} : ItRel K m H ⟨z.cps.toList.map fun c => .str ⟨#[c]⟩, fun _ => True⟩ (Its z) := by
  refine ⟨fun i d m' H' st e x rs _ => ?_, fun m' H' st x rs _ => ?_⟩
  · have hi : i < z.cps.size := by
      have := (List.getElem?_eq_some_iff.mp e).1
      simpa using this
    refine ⟨hi, fun y H2 q => ?_⟩
    obtain ⟨rfl, c, hc, rfl⟩ := q
    refine ⟨Ext.refl, rs, ?_⟩
    rw [List.getElem?_map] at e
    obtain ⟨c', ec, rfl⟩ := Option.map_eq_some_iff.mp e
    simp only [RV]
    have : z.cps[i]? = some c' := by simpa using ec
    rw [hc] at this; cases this; rfl
  · show z.cps.size ≤ _
    simp
theorem rg_get {lo : Int} {n i : Nat} {d : D} (h : (rgItems lo n)[i]? = some d) : i < n ∧ d = .int (lo + (i : Nat)) := by
  unfold rgItems at h
  rw [List.getElem?_map] at h
  obtain ⟨k, ek, rfl⟩ := Option.map_eq_some_iff.mp h
  have hk := List.getElem?_eq_some_iff.mp ek
  obtain ⟨hk1, hk2⟩ := hk
  rw [List.length_range] at hk1
  rw [List.getElem_range] at hk2
  subst hk2
  exact ⟨hk1, rfl⟩
theorem itrel_range {lo : Int} {n : Nat} : ItRel K m H ⟨rgItems lo n, fun _ => True⟩ (Itr lo n) := by
  refine ⟨fun i d m' H' st e x rs _ => ?_, fun m' H' st x rs _ => ?_⟩
  · obtain ⟨hi, rfl⟩ := rg_get e
    refine ⟨hi, fun y H2 q => ?_⟩
    obtain ⟨rfl, rfl⟩ := q
    exact ⟨Ext.refl, rs, by simp [RV]⟩
  · show n ≤ _
    simp [rgItems]
theorem en_get {ds : List D} {i : Nat} {d : D} (h : (enItems ds)[i]? = some d) : ∃ d0, ds[i]? = some d0 ∧ d = .tup [.int (i : Nat), d0] := by
  unfold enItems at h
  rw [List.getElem?_map] at h
  obtain ⟨k, ek, rfl⟩ := Option.map_eq_some_iff.mp h
  obtain ⟨hk1, hk2⟩ := List.getElem?_eq_some_iff.mp ek
  rw [List.length_range] at hk1
  rw [List.getElem_range] at hk2
  subst hk2
  exact ⟨ds[i], List.getElem?_eq_getElem hk1, by simp [List.getD, List.getElem?_eq_getElem hk1]⟩
theorem en_len (ds : List D) : (enItems ds).length = ds.length := by
  unfold enItems; simp
theorem itrel_enum {l : Nat} {a : Addr} {ds : List D} (hl : m[l]? = some a) : ItRel K m H ⟨enItems ds, fun st' => st'[l]? = some (.lst ds)⟩ (Ite K a) := by
  refine ⟨fun i d m' H' st e x rs h => ?_, fun m' H' st x rs h => ?_⟩
  · obtain ⟨vs, h1, h2⟩ := rs.lst (x.idx hl) h
    obtain ⟨d0, e0, rfl⟩ := en_get e
    obtain ⟨v, e1, e2⟩ := h2.get e0
    refine ⟨⟨vs, v, SqL.of h1, e1⟩, fun y H2 q => ?_⟩
    obtain ⟨T, x', rfl, hT, rfl, q⟩ := q
    have := q vs (SqL.of h1)
    rw [e1] at this; cases this
    refine ⟨ext_fresh hT, rs.beside hT, ?_⟩
    simp only [RV]
    exact ⟨T, _, rfl, .inl (.inl upd_same), RVs.cons (by simp [RV]) (RVs.one (RV.ext rs (ext_fresh hT) _ e2))⟩
  · obtain ⟨vs, h1, h2⟩ := rs.lst (x.idx hl) h
    exact ⟨vs, SqL.of h1, by rw [en_len, h2.len]; exact Nat.le_refl _⟩
end
section
variable {cm : Str → Option Value} {W : WX} {X : Cx} {tg a e : Expr} {es : List Expr} {fa : EF} {fs : AF} {pos p tpos : Pos}
/-- a list, tuple or text, whichever comes -/
theorem di_seq (ha : DE cm W X a fa) : DI cm W X tg a (iSeq fa) := by
  refine ⟨fun pins s σ H R I h => ?_⟩
  obtain ⟨m, p, st, re, rs, h⟩ := h
  refine thn (ha.run pins s σ H (fun x H1 => ∃ d st1 m1, RSt X.K m1 H1 st1 ∧ RV X.K m1 H1 d x ∧ Post cm X.K (ItRel X.K) (fun c d H' => W c d σ H') m1 H1 (itOf d st1) R) I ⟨m, p, st, re, rs, Post.split h fun d st1 m1 H1 v e1 x1 rs1 r1 h1 => ⟨d, st1, m1, rs1, r1, h1⟩⟩) fun v s1 ⟨x, H1, I1, r1, d, st1, m1, rs1, rv, q⟩ => ?_
  cases d with
  | non => exact q.elim
  | bl _ => exact q.elim
  | exn => exact q.elim
  | int _ => exact q.elim
  | tup ds =>
    simp only [RV] at rv
    obtain ⟨b, vs, rfl, hb, rvs⟩ := rv
    cases r1
    obtain ⟨its, rl, pl, hz⟩ := I1.tuple hb
    refine wpAny_pyIter_tuple (show s1.heap.IsTuple b its.toArray from pl) ?_
    refine ⟨s1.heap.objs.size, [s1.heap.objs.size], _, _, H1, rfl, I1.kept (t' := s1.toks) fun b o e => Heap.get?_push_of_some _ e, turn_tuple b _, ⟨_, Heap.get?_push_size _ rfl, rfl, rfl⟩, fun b hb => ?_, q m1 H1 _ Ext.refl rs1 (itrel_tup rs1 hb rvs)⟩
    have e : b = s1.heap.objs.size := by simpa using hb
    subst e
    exact I1.fpOk (Nat.le_refl _) (I1.hok.fresh (Nat.le_refl _))
  | scr ns =>
    simp only [RV] at rv
    obtain ⟨b, rfl, hb⟩ := rv
    cases r1
    obtain ⟨its, rl, pl, hz⟩ := I1.list hb.seq
    refine wpAny_pyIter_list pl.isList ?_
    refine ⟨s1.heap.objs.size, [s1.heap.objs.size], _, _, H1, rfl, I1.kept (t' := s1.toks) fun b o e => Heap.get?_push_of_some _ e, turn_list b _, ⟨_, Heap.get?_push_size _ rfl, rfl, rfl⟩, fun b hb => ?_, q m1 H1 _ Ext.refl rs1 (itrel_scr rs1 hb)⟩
    have e : b = s1.heap.objs.size := by simpa using hb
    subst e
    exact I1.fpOk (Nat.le_refl _) (I1.hok.fresh (Nat.le_refl _))
  | str z =>
    simp only [RV] at rv
    subst rv
    obtain ⟨t, rfl⟩ := r1
    have q' := q m1 H1 _ Ext.refl rs1 (itrel_str (K := X.K) (m := m1) (H := H1) (z := z))
    cases hz : z.cps.all (· < 128)
    · exact wpAny_pyIter_wide hz (pi_one (tk := s1.toks) I1 _ (turn_str _ z t "str_iterator" (.inr rfl)) ⟨_, Heap.get?_push_size _ rfl, rfl, rfl⟩ q')
    · exact wpAny_pyIter_ascii hz (pi_one (tk := s1.toks) I1 _ (turn_str _ z t "str_ascii_iterator" (.inl rfl)) ⟨_, Heap.get?_push_size _ rfl, rfl, rfl⟩ q')
  | ref l =>
    simp only [RV] at rv
    obtain ⟨b, rfl, hb⟩ := rv
    cases r1
    cases hs : st1[l]? with
    | none => simp only [itOf, hs] at q; exact q.elim
    | some o =>
      simp only [itOf, hs] at q
      cases o with
      | dic _ => exact q.elim
      | lst ds =>
        obtain ⟨vs, h1, h2⟩ := rs1.lst hb hs
        obtain ⟨its, rl, pl, hz⟩ := I1.list (SqL.of h1)
        refine wpAny_pyIter_list pl.isList ?_
        refine ⟨s1.heap.objs.size, [s1.heap.objs.size], _, _, H1, rfl, I1.kept (t' := s1.toks) fun b o e => Heap.get?_push_of_some _ e, turn_list b _, ⟨_, Heap.get?_push_size _ rfl, rfl, rfl⟩, fun b hb => ?_, q m1 H1 _ Ext.refl rs1 (itrel_list hb)⟩
        have e : b = s1.heap.objs.size := by simpa using hb
        subst e
        exact I1.fpOk (Nat.le_refl _) (I1.hok.fresh (Nat.le_refl _))
theorem piI {t t' : TI} (h : PI X tg e t) (i : ∀ s H Q, t' s H Q → t s H Q) : PI X tg e t' := ⟨fun pins s σ H Q I q => h.run pins s σ H Q I (i _ _ _ q)⟩
theorem di_range1 (hg : Gl X "range") (hm : X.mg "range" = none) (ha : DA cm W X [a] fs) (hs : starEach [a] X.env = [(false, eval a X.env)] := by rfl) : DI cm W X tg (.Call (.Name "range" p) [a] [] pos) (iRange1 fs) :=
  piI (pi_range1 hg hm ha hs) fun s H Q h => by
    obtain ⟨m, p, st, re, rs, h⟩ := h
    refine ⟨m, p, st, re, rs, Post.split h fun d st1 m1 H1 v e1 x1 rs1 r1 h1 => ?_⟩
    split at h1
    · split at h1
      · rename_i n hn
        simp only [RVs, RV] at r1
        obtain ⟨_, _, rfl, rfl, rfl⟩ := r1
        exact ⟨n, rfl, hn.1, hn.2, h1 m1 H1 _ Ext.refl rs1 itrel_range⟩
      · exact h1.elim
    · exact h1.elim
theorem di_range2 {b : Expr} (hg : Gl X "range") (hm : X.mg "range" = none) (ha : DA cm W X [a, b] fs) (hs : starEach [a, b] X.env = [(false, eval a X.env), (false, eval b X.env)] := by rfl) (hs2 : starEach [b] X.env = [(false, eval b X.env)] := by rfl) :
    DI cm W X tg (.Call (.Name "range" p) [a, b] [] pos) (iRange2 fs) :=
  piI (pi_range2 hg hm ha hs hs2) fun s H Q h => by
    obtain ⟨m, p, st, re, rs, h⟩ := h
    refine ⟨m, p, st, re, rs, Post.split h fun d st1 m1 H1 v e1 x1 rs1 r1 h1 => ?_⟩
    split at h1
    · split at h1
      · rename_i i j hn
        simp only [RVs, RV] at r1
        obtain ⟨_, _, rfl, rfl, _, _, rfl, rfl, rfl⟩ := r1
        exact ⟨i, j, rfl, hn, h1 m1 H1 _ Ext.refl rs1 itrel_range⟩
      · exact h1.elim
    · exact h1.elim
theorem di_enum {elts : List Expr} {kk : Nat} (hg : Gl X "enumerate") (hm : X.mg "enumerate" = none) (ha : DA cm W X [a] fs) (hs : starEach [a] X.env = [(false, eval a X.env)] := by rfl) : DI cm W X (.Tuple elts kk tpos) (.Call (.Name "enumerate" p) [a] [] pos) (iEnumF fs) :=
  piI (pi_enum hg hm ha hs) fun s H Q h => by
    obtain ⟨m, p, st, re, rs, h⟩ := h
    refine ⟨m, p, st, re, rs, Post.split h fun d st1 m1 H1 v e1 x1 rs1 r1 h1 => ?_⟩
    split at h1
    · split at h1
      · rename_i l _ ds hn
        simp only [RVs, RV] at r1
        obtain ⟨_, _, rfl, ⟨b, rfl, hb⟩, rfl⟩ := r1
        obtain ⟨vs, q1, q2⟩ := rs1.lst hb hn
        exact ⟨b, vs, rfl, SqL.of q1, h1 m1 H1 _ Ext.refl rs1 (itrel_enum hb)⟩
      · exact h1.elim
    · exact h1.elim
end
end Mi
set_option Elab.async false
set_option linter.all false
set_option maxRecDepth 100000
set_option maxHeartbeats 4000000
/-! Mi3: targets, comprehensions, statements, loops. -/
namespace Mi
open PySem PySem.Spec L2
open PyProof.Rows hiding St

/-! ### targets -/
abbrev TgF := D → Rho → Store → Option Rho
/-- the slots outside l are as they were -/
def Same1 (l : List Nat) (s s' : L2.St) : Prop := s'.length = s.length ∧ ∀ j, j ∉ l → s'[j]? = s[j]?
def LiftTg (K : PySem.W.Frag) (l : List Nat) (f : TgF) : TG := fun v s H Q => ∃ m p st d, RE K m H p s ∧ RSt K m H st ∧ RV K m H d v ∧
  match f d p st with
  | some p' => ∀ s', RE K m H p' s' → Same1 l s s' → Q s' H
  | none => False
def DG (X : Cx) (e : Expr) (l : List Nat) (f : TgF) : Prop := PG X e (LiftTg X.K l f)
def gNameF (i : Nat) : TgF := fun d p _ => some (p.set i (some d))
abbrev TgsF := List D → Rho → Store → Option Rho
def LiftTgs (K : PySem.W.Frag) (l : List Nat) (f : TgsF) : TGs := fun vs s H Q => ∃ m p st ds, RE K m H p s ∧ RSt K m H st ∧ RVs K m H ds vs ∧
  match f ds p st with
  | some p' => ∀ s', RE K m H p' s' → Same1 l s s' → Q s' H
  | none => False
def DGs (X : Cx) (e : List Expr) (l : List Nat) (f : TgsF) : Prop := PGs X e (LiftTgs X.K l f)
def gNilF : TgsF := fun ds p _ => match ds with
  | [] => some p
  | _ => none
def gConsF (f : TgF) (g : TgsF) : TgsF := fun ds p st => match ds with
  | d :: ds => match f d p st with
    | some p1 => g ds p1 st
    | none => none
  | [] => none
def gTupF (n : Nat) (g : TgsF) : TgF := fun d p st => match d with
  | .tup ds => if ds.length = n then g ds p st else none
  | _ => none
section
variable {K : PySem.W.Frag} {m : List Addr} {H : Hp} {st : Store} {X : Cx}
theorem RE.set {p : Rho} {s : L2.St} {i : Nat} {d : D} {v : V} (re : RE K m H p s) (hi : i < s.length) (r : RV K m H d v) : RE K m H (p.set i (some d)) (s.set i (some v)) := fun j d' e => by
  by_cases hj : i = j
  · subst hj
    by_cases hp : i < p.length
    · rw [List.getElem?_set_self hp] at e
      cases e
      exact ⟨v, List.getElem?_set_self hi, r⟩
    · rw [List.getElem?_eq_none (by simpa using hp)] at e; cases e
  · rw [List.getElem?_set_ne hj] at e
    obtain ⟨v', e1, e2⟩ := re j d' e
    exact ⟨v', by rw [List.getElem?_set_ne hj]; exact e1, e2⟩
theorem Same1.refl {l : List Nat} {s : L2.St} : Same1 l s s := ⟨rfl, fun _ _ => rfl⟩
theorem Same1.set {l : List Nat} {s : L2.St} {i : Nat} {v : Option V} (h : i ∈ l) : Same1 l s (s.set i v) := ⟨by simp, fun j hj => List.getElem?_set_ne fun e => hj (by rw [← e]; exact h)⟩
theorem Same1.trans {l l' : List Nat} {s s' s'' : L2.St} (a : Same1 l s s') (b : Same1 l' s' s'') : Same1 (l ++ l') s s'' := ⟨b.1.trans a.1, fun j hj => by
  rw [List.mem_append, not_or] at hj
  exact (b.2 j hj.2).trans (a.2 j hj.1)⟩
theorem pgI {e : Expr} {t t' : TG} (h : PG X e t) (i : ∀ v s H Q, s.length = X.N.length → t' v s H Q → t v s H Q) : PG X e t' := ⟨fun pins s σ H v u Q I r q => h.run pins s σ H v u Q I r (i _ _ _ _ I.len q)⟩
theorem pgsI {e : List Expr} {t t' : TGs} (h : PGs X e t) (i : ∀ v s H Q, s.length = X.N.length → t' v s H Q → t v s H Q) : PGs X e t' := ⟨fun pins s σ H v u Q I r q => h.run pins s σ H v u Q I r (i _ _ _ _ I.len q)⟩
theorem dg_name {i : Nat} {x : Str} {pos : Pos} (hN : X.N.Nodup) (hi : X.N[i]? = some x := by rfl) (hx : Loc X.env.scope x := by first | exact Or.inl rfl | exact Or.inr rfl) (hf : X.fn x = true ∨ X.env.scope.names.lookup x = some .local := by first | exact .inl rfl | exact .inr rfl | assumption) : DG X (.Name x pos) [i] (gNameF i) :=
  pgI (pg_name hN hi hx hf) fun v s H Q hl h => by
    obtain ⟨m, p, st, d, re, rs, r, h⟩ := h
    exact h _ (re.set (by rw [hl]; exact (List.getElem?_eq_some_iff.mp hi).1) r) (Same1.set (by simp))
theorem dgs_nil : DGs X [] [] gNilF := pgsI pgs_nil fun v s H Q hl h => by
  obtain ⟨m, p, st, ds, re, rs, r, h⟩ := h
  cases ds with
  | nil => simp only [RVs] at r; exact ⟨r, h s re Same1.refl⟩
  | cons _ _ => exact h.elim
theorem dgs_cons {e : Expr} {es : List Expr} {l l' : List Nat} {f : TgF} {g : TgsF} (h1 : DG X e l f) (h2 : DGs X es l' g) (hs : (assignEach (e :: es) X.env).map (·.2) = assign e X.env :: (assignEach es X.env).map (·.2) := by rfl) : DGs X (e :: es) (l ++ l') (gConsF f g) :=
  pgsI (pgs_cons h1 h2 hs) fun v s H Q hl h => by
    obtain ⟨m, p, st, ds, re, rs, r, h⟩ := h
    cases ds with
    | nil => exact h.elim
    | cons d ds =>
      simp only [RVs] at r
      obtain ⟨v0, vr, rfl, r0, r⟩ := r
      refine ⟨v0, vr, rfl, m, p, st, d, re, rs, r0, ?_⟩
      simp only [gConsF] at h
      cases q : f d p st with
      | none => rw [q] at h; exact h.elim
      | some p1 =>
        rw [q] at h
        refine fun s' re' sm => ⟨m, p1, st, ds, re', rs, r, ?_⟩
        dsimp only at h
        cases q2 : g ds p1 st with
        | none => rw [q2] at h; exact h.elim
        | some p2 => rw [q2] at h; exact fun s2 re2 sm2 => h s2 re2 (sm.trans sm2)
theorem dg_tup {es : List Expr} {k : Nat} {l : List Nat} {g : TgsF} {n : Nat} {pos : Pos} (hc : X.calm = true) (h : DGs X es l g) (hn : (assignEach es X.env).length = n := by rfl) (hst : (assignEach es X.env).findIdx? (·.1) = none := by rfl) : DG X (.Tuple es k pos) l (gTupF n g) :=
  pgI (pg_tup hc h hn hst) fun v s H Q hl h => by
    obtain ⟨m, p, st, d, re, rs, r, h⟩ := h
    cases d with
    | tup ds =>
      simp only [RV] at r
      obtain ⟨a, vs, rfl, ha, r⟩ := r
      simp only [gTupF] at h
      by_cases hz : ds.length = n
      · rw [if_pos hz] at h
        exact ⟨a, vs, rfl, ha, by rw [← r.len]; exact hz, m, p, st, ds, re, rs, r, h⟩
      · rw [if_neg hz] at h; exact h.elim
    | _ => exact h.elim
end

/-! ### comprehensions -/
def wipeR (p : Rho) : List Nat → Rho
  | [] => p
  | v :: vs => (wipeR p vs).set v none
theorem wipe_same {s s' : L2.St} {l : List Nat} (h : Same1 l s s') : ∀ {vs : List Nat}, (∀ j ∈ l, j ∈ vs) → wipe s' vs = wipe s vs := fun {vs} hl => by
  have key : ∀ (vs : List Nat) (s : L2.St) (j : Nat), (wipe s vs)[j]? = if j ∈ vs then (if j < s.length then some none else none) else s[j]? := by
    intro vs
    induction vs with
    | nil => intro s j; simp [wipe]
    | cons v vs ih =>
      intro s j
      unfold wipe
      by_cases hj : v = j
      · subst hj
        by_cases hlt : v < s.length
        · rw [List.getElem?_set_self (by rw [wipe_length]; exact hlt)]; simp [hlt]
        · rw [List.getElem?_eq_none (by rw [List.length_set, wipe_length]; omega)]; simp [hlt]
      · rw [List.getElem?_set_ne hj, ih s j]
        have : j ≠ v := fun e => hj e.symm
        simp [this]
  refine List.ext_getElem? fun j => ?_
  rw [key, key, h.1]
  split
  · rfl
  · rename_i hj
    exact h.2 j fun q => hj (hl j q)
theorem RE.wipe {K : PySem.W.Frag} {m : List Addr} {H : Hp} {p : Rho} {s : L2.St} (re : RE K m H p s) : ∀ vs : List Nat, RE K m H (wipeR p vs) (L2.wipe s vs)
  | [] => re
  | v :: vs => fun j d e => by
    unfold wipeR at e
    unfold L2.wipe
    by_cases hj : v = j
    · subst hj
      by_cases hp : v < (wipeR p vs).length
      · rw [List.getElem?_set_self hp] at e; cases e
      · rw [List.getElem?_eq_none (by simpa using hp)] at e; cases e
    · rw [List.getElem?_set_ne hj] at e
      rw [List.getElem?_set_ne hj]
      exact re.wipe vs j d e
def W0 : WX := fun _ _ _ _ => False
def noX {α : Type} (r : R α) : R α := match r with
  | .exc _ _ => .bad
  | r => r
theorem noX_ok {α : Type} (a : α) (st : Store) : noX (.ok a st) = .ok a st := rfl
open Classical in
noncomputable def compGo (still : Store → Prop) (tg : TgF) (tt : TF1) (te : EF) (p : Rho) : List D → Store → R (List D)
  | [], st => if still st then .ok [] st else .bad
  | d :: ds, st => if still st then (match tg d p st with
    | none => .bad
    | some p1 => bindR (noX (tt p1 st)) fun b st1 => if b = true then bindR (noX (te p1 st1)) fun y st2 => bindR (compGo still tg tt te p ds st2) fun ys st3 => .ok (y :: ys) st3 else compGo still tg tt te p ds st1) else .bad
noncomputable def eLC (fi : IF) (own : List Nat) (tg : TgF) (tt : TF1) (te : EF) : EF := fun p st => bindR (fi p st) fun it st1 => bindR (compGo it.still tg tt te (wipeR p own) it.items st1) fun ys st2 => optR (mkLst ys st2)
def tYesF : TF1 := fun _ st => .ok true st
def DTs (cm : Str → Option Value) (W : WX) (X : Cx) (es : List Expr) (f : TF1) : Prop := PTs X es (LiftT cm X.K W f)
section
variable {cm : Str → Option Value} {W : WX} {X : Cx}
theorem ptsI {e : List Expr} {t t' : TT} (h : PTs X e t) (i : ∀ s H Q, t' s H Q → t s H Q) : PTs X e t' := ⟨fun pins s σ H Q I q => h.run pins s σ H Q I (i _ _ _ q)⟩
theorem dts_nil : DTs cm W X [] tYesF := ptsI pts_nil fun s H Q h => by
  obtain ⟨m, p, st, re, rs, h⟩ := h
  exact h m H true Ext.refl rs rfl
theorem dts_one {c : Expr} {t : TF1} (h : DT cm W X c t) : DTs cm W X [c] t := pts_one h
theorem upd_id {H : Hp} {a : Addr} {o : HO} (h : H a = some o) : upd H a o = H := by
  funext b; unfold upd; split
  · rename_i e; rw [e, h]
  · rfl
theorem noX_post {α β : Type} {K : PySem.W.Frag} {rel : List Addr → Hp → α → β → Prop} {m : List Addr} {H : Hp} {r : R α} {Q : β → Hp → Prop} {s : L2.St} (h : ∃ a st, noX r = .ok a st ∧ ∀ m' H' v, Ext m H m' H' → RSt K m' H' st → rel m' H' a v → Q v H') : Post cm K rel (fun c d H' => W0 c d s H') m H r Q := by
  obtain ⟨a, st, e, h⟩ := h
  cases r with
  | ok d st' => cases e; exact h
  | exc x st' => cases e
  | bad => cases e
theorem bindR_inv {α β : Type} {r : R α} {f : α → Store → R β} {b : β} {st : Store} (h : bindR r f = .ok b st) : ∃ a st1, r = .ok a st1 ∧ f a st1 = .ok b st := by
  cases r with
  | ok a st1 => exact ⟨a, st1, rfl, h⟩
  | exc _ _ => cases h
  | bad => cases h
theorem tf_lst {H : Hp} {D0 : Addr} {vs : List V} (h : H D0 = some (.lst vs)) : ∀ u, H D0 = some u → ¬ TF u := fun u e t => by
  rw [h] at e; cases e
  rcases t with ⟨_, t⟩ | ⟨_, _, t⟩ | ⟨_, t⟩ <;> cases t
/-- THE comprehension's turns -/
theorem lc_turns {K : PySem.W.Frag} {ftg : TgF} {ftt : TF1} {fe : EF} {l : List Nat} {vs : List Nat} {it : IT} {J : It} {m1 : List Addr} {H1 : Hp} {st1 st2 : Store} {p : Rho} {s : L2.St} {ys : List D} {Q : VK} {D0 : Addr}
    (hl : ∀ j ∈ l, j ∈ vs) (re : RE K m1 H1 p s) (rs1 : RSt K m1 H1 st1) (ir : ItRel K m1 H1 it J) (hgo : compGo it.still ftg ftt fe (wipeR p vs) it.items st1 = .ok ys st2) (hz : ys.length ≤ LIM) (hD : H1 D0 = none)
    (hQ : PostO K (RV K) m1 H1 (alloc (.lst ys) st2) Q) :
    ∃ Wv : Nat → Nat → Hp → Prop, (∃ m, Wv 0 m (upd H1 D0 (.lst []))) ∧ ∀ i m H, Wv i m H →
      (J.stop i H ∧ Q (.ref D0) H) ∨ (J.go i H ∧ ∃ Nx : Hp → Prop, (∀ H', Nx H' → ∃ m', m' < m ∧ Wv (i + 1) m' H') ∧ ∀ x H', J.yld i H x H' → LiftTg K l ftg x (L2.wipe s vs) H' fun s2 H2 => L2.wipe s2 vs = L2.wipe s vs ∧ LiftT cm K W0 ftt s2 H2 fun b H3 =>
        if b = true then LiftE cm K W0 fe s2 H3 fun y H4 => ∃ acc, H4 D0 = some (.lst acc) ∧ acc.length < sizeLine ∧ Nx (upd H4 D0 (.lst (acc ++ [y]))) else Nx H3) := by
  let P : Nat → Hp → Prop := fun i H => ∃ m2 st' acc vacc rest, Ext m1 H1 m2 H ∧ RSt K m2 H st' ∧ H D0 = some (.lst vacc) ∧ D0 ∉ m2 ∧ RVs K m2 H acc vacc ∧ compGo it.still ftg ftt fe (wipeR p vs) (it.items.drop i) st' = .ok rest st2 ∧ acc ++ rest = ys
  have nD : D0 ∉ m1 := rs1.fresh hD
  refine ⟨fun i m H => m = it.items.length - i ∧ i ≤ it.items.length ∧ P i H, ⟨_, rfl, Nat.zero_le _, m1, st1, [], [], ys, Ext.touch Ext.refl hD, rs1.beside hD, upd_same, nD, RVs.nil, by simpa using hgo, rfl⟩, ?_⟩
  rintro i mm H ⟨rfl, hi, m2, st', acc, vacc, rest, x2, rs2, hDl, nD2, racc, hgo', hys⟩
  by_cases hlt : i < it.items.length
  · right
    have hd : it.items[i]? = some it.items[i] := List.getElem?_eq_getElem hlt
    rw [List.drop_eq_getElem_cons hlt] at hgo'
    unfold compGo at hgo'
    split at hgo'
    · rename_i hstill
      obtain ⟨jgo, jy⟩ := ir.1 i _ m2 H st' hd x2 rs2 hstill
      refine ⟨jgo, P (i + 1), fun H' q => ⟨it.items.length - (i + 1), by omega, rfl, hlt, q⟩, fun x H' hy => ?_⟩
      obtain ⟨x3, rs3, rx⟩ := jy x H' hy
      have hDl3 := x3.keep _ _ hDl nD2
      refine ⟨m2, wipeR p vs, st', it.items[i], ((re.ext rs1 x2).ext rs2 x3).wipe vs, rs3, rx, ?_⟩
      cases qt : ftg it.items[i] (wipeR p vs) st' with
      | none => rw [qt] at hgo'; cases hgo'
      | some p1 =>
        rw [qt] at hgo'
        dsimp only at hgo'
        refine fun s2 re2 sm => ⟨?_, m2, p1, st', re2, rs3, noX_post ?_⟩
        · rw [wipe_same sm hl]
          have : ∀ (vs : List Nat) (s : L2.St), L2.wipe (L2.wipe s vs) vs = L2.wipe s vs := fun vs s => wipe_same (l := vs) ⟨wipe_length s vs, fun j hj => by
            have key : ∀ (vs : List Nat), j ∉ vs → (L2.wipe s vs)[j]? = s[j]? := by
              intro vs
              induction vs with
              | nil => intro _; rfl
              | cons v vs ih =>
                intro h
                rw [List.mem_cons, not_or] at h
                unfold L2.wipe
                rw [List.getElem?_set_ne (fun e => h.1 e.symm)]
                exact ih h.2
            exact key vs hj⟩ fun _ h => h
          exact this vs s
        · obtain ⟨b, st4, eb, hgo'⟩ := bindR_inv hgo'
          refine ⟨b, st4, eb, fun m4 H4 b' x4 rs4 e => ?_⟩
          subst e
          have hDl4 := x4.keep _ _ hDl3 nD2
          have nD4 := x4.notin hDl3 nD2
          cases b with
          | false =>
            rw [if_neg (by simp)] at hgo' ⊢
            exact ⟨m4, st4, acc, vacc, rest, (x2.trans rs2 x3).trans rs3 x4, rs4, hDl4, nD4, RVs.ext rs3 x4 _ (RVs.ext rs2 x3 _ racc), hgo', hys⟩
          | true =>
            rw [if_pos rfl] at hgo' ⊢
            refine ⟨m4, p1, st4, re2.ext rs3 x4, rs4, noX_post ?_⟩
            obtain ⟨y, st5, ey, hgo'⟩ := bindR_inv hgo'
            obtain ⟨ys', st6, eys, hgo'⟩ := bindR_inv hgo'
            cases hgo'
            refine ⟨y, st5, ey, fun m5 H5 v x5 rs5 rv => ⟨vacc, x5.keep _ _ hDl4 nD4, ?_, ?_⟩⟩
            · have h1 := racc.len
              have h2 := congrArg List.length hys
              rw [List.length_append, List.length_cons] at h2
              have : vacc.length < LIM := by omega
              rw [lim_eq]; exact this
            · have hDl5 := x5.keep _ _ hDl4 nD4
              have nD5 := x5.notin hDl4 nD4
              have e0 : Ext0 m5 H5 m5 (upd H5 D0 (.lst (vacc ++ [v]))) := by simpa using ext0_touch (m := m5) (o := .lst (vacc ++ [v])) (tf_lst hDl5) (n := [])
              exact ⟨m5, st5, acc ++ [y], vacc ++ [v], ys', Ext.touch (((x2.trans rs2 x3).trans rs3 x4).trans rs4 x5) hD, rs5.aside nD5 (tf_lst hDl5), upd_same, nD5,
                RVs.append (RVs.ext0 e0 _ (RVs.ext rs4 x5 _ (RVs.ext rs3 x4 _ (RVs.ext rs2 x3 _ racc)))) (RVs.one (RV.ext0 e0 _ rv)), eys, by simpa using hys⟩
    · cases hgo'
  · left
    have e : i = it.items.length := by omega
    subst e
    rw [List.drop_length] at hgo'
    unfold compGo at hgo'
    split at hgo'
    · rename_i hstill
      cases hgo'
      rw [List.append_nil] at hys
      subst hys
      refine ⟨ir.2 m2 H st2 x2 rs2 hstill, ?_⟩
      have e := upd_id hDl
      have rs3 : RSt K (m2 ++ [D0]) H (st2 ++ [.lst acc]) := by
        have := rs2.adopt nD2 (tf_lst hDl) (ho := .lst vacc) (o := .lst acc) ⟨vacc, upd_same, RVs.ext0 (ext0_touch (tf_lst hDl)) _ racc⟩
        rw [e] at this; exact this
      have x3 : Ext m1 H1 (m2 ++ [D0]) H := by
        have := x2.adopt hD (o := .lst vacc)
        rw [e] at this; exact this
      exact hQ _ _ _ x3 rs3 (by simp only [RV]; exact ⟨D0, rfl, by rw [← rs2.len, List.getElem?_concat_length]⟩)
    · cases hgo'
theorem lift_lc {wi : TI} {fi : IF} {ftg : TgF} {ftt : TF1} {fe : EF} {l vs : List Nat} {s : L2.St} {H : Hp} {Q : VK} {K : PySem.W.Frag} (hl : ∀ j ∈ l, j ∈ vs) (h : LiftE cm K W (eLC fi vs ftg ftt fe) s H Q) :
    tLc (LiftI cm K W fi) (LiftTg K l ftg) (LiftT cm K W0 ftt) (LiftE cm K W0 fe) vs s H Q := by
  obtain ⟨m, p, st, re, rs, h⟩ := h
  refine ⟨m, p, st, re, rs, Post.split h fun it st1 m1 H1 J e1 x1 rs1 ir h1 => fun D0 hD => ?_⟩
  cases q : compGo it.still ftg ftt fe (wipeR p vs) it.items st1 with
  | bad => rw [q] at h1; exact h1.elim
  | exc e st2 =>
    exfalso
    have key : ∀ (ds : List D) (st1 : Store) e st2, compGo it.still ftg ftt fe (wipeR p vs) ds st1 ≠ .exc e st2 := by
      intro ds
      induction ds with
      | nil => intro st1 e st2 h; unfold compGo at h; split at h <;> cases h
      | cons d ds ih =>
        intro st1 e st2 h
        unfold compGo at h
        split at h
        · split at h
          · cases h
          · rename_i p1 _
            cases q1 : ftt p1 st1 with
            | bad => rw [q1] at h; cases h
            | exc _ _ => rw [q1] at h; cases h
            | ok b st3 =>
              rw [q1] at h
              simp only [noX, bindR] at h
              split at h
              · cases q2 : fe p1 st3 with
                | bad => rw [q2] at h; cases h
                | exc _ _ => rw [q2] at h; cases h
                | ok y st4 =>
                  rw [q2] at h
                  cases q3 : compGo it.still ftg ftt fe (wipeR p vs) ds st4 with
                  | bad => simp only [noX, bindR, q3] at h; cases h
                  | ok _ _ => simp only [noX, bindR, q3] at h; cases h
                  | exc e' st5 => exact ih _ _ _ q3
              · exact ih _ _ _ h
        · cases h
    exact key _ _ _ _ q
  | ok ys st2 =>
    rw [q] at h1
    have h2 := PostO.of h1
    unfold mkLst at h2
    split at h2
    · rename_i hz
      exact lc_turns hl (re.ext rs x1) rs1 ir q hz hD h2
    · exact h2.elim
theorem de_lc {elt tg iter : Expr} {ifs : List Expr} {scope : Scope} {own : List (Str × Nat)} {pos : Pos} {fi : IF} {ftg : TgF} {ftt : TF1} {fe : EF} {l : List Nat} (hc : X.calm = true) (hN : X.N.Nodup) (hi : DI cm W X tg iter fi) (ok : BlkOk X.N X.env.scope scope own)
    (hg : ∀ (s : Shared) (H : Hp) (C : Addr) (cl : List (Str × Addr)) (fp : List Addr), DG (X.blk s H scope (compEnvC scope cl C X.env) fp) tg l ftg) (ht : ∀ (s : Shared) (H : Hp) (C : Addr) (cl : List (Str × Addr)) (fp : List Addr), DTs cm W0 (X.blk s H scope (compEnvC scope cl C X.env) fp) ifs ftt)
    (he : ∀ (s : Shared) (H : Hp) (C : Addr) (cl : List (Str × Addr)) (fp : List Addr), DE cm W0 (X.blk s H scope (compEnvC scope cl C X.env) fp) elt fe) (hl : ∀ j ∈ l, j ∈ own.map (·.2) := by decide) (hs : ∀ x, foldedSetIterable iter X.env x = pure x := by intro _; rfl) :
    DE cm W X (.ListComp elt [⟨tg, iter, ifs, 0⟩] scope pos) (eLC fi (own.map (·.2)) ftg ftt fe) :=
  peI (pe_lc (g := LiftTg X.K l ftg) (tt := LiftT cm X.K W0 ftt) (te := LiftE cm X.K W0 fe) hc hN hi ok hg ht he hs) fun s H Q h => lift_lc (wi := LiftI cm X.K W fi) hl h

/-! ### statements -/
def sNil : SF := fun p st => .nx p st
def sSeq (a b : SF) : SF := fun p st => match a p st with
  | .nx p1 st1 => b p1 st1
  | r => r
def sRet (a : EF) : SF := fun p st => bindS p (a p st) fun d st1 => .rt d st1
def sRetN : SF := fun _ st => .rt .non st
def sExpr (a : EF) : SF := fun p st => bindS p (a p st) fun _ st1 => .nx p st1
def sIf (t : TF1) (a b : SF) : SF := fun p st => bindS p (t p st) fun x st1 => if x = true then a p st1 else b p st1
/-- name, or a tuple of names = e -/
def sAsg (a : EF) (g : TgF) : SF := fun p st => bindS p (a p st) fun d st1 => match g d p st1 with
  | some p1 => .nx p1 st1
  | none => .bad
def sPar2 (i j : Nat) (a : AF) : SF := fun p st => bindS p (a p st) fun ds st1 => match ds with
  | [d, e] => .nx ((p.set i (some d)).set j (some e)) st1
  | _ => .bad
def sPar3 (i j k : Nat) (a : AF) : SF := fun p st => bindS p (a p st) fun ds st1 => match ds with
  | [d, e, f] => .nx (((p.set i (some d)).set j (some e)).set k (some f)) st1
  | _ => .bad
section
variable {s1 : Stmt} {ss : List Stmt} {f g : SF} {e c : Expr} {fa : EF} {ft : TF1} {pos pos' : Pos}
theorem dss_nil : DSs cm W X [] sNil := pssI pss_nil fun D s H h => by
  obtain ⟨m, p, st, re, rs, h⟩ := h
  exact h m H s Ext.refl rs re
theorem seq_post {K : PySem.W.Frag} {D : Ends} {m : List Addr} {H : Hp} {p : Rho} {st : Store} (h : PostS cm K W m H (sSeq f g p st) D) : PostS cm K W m H (f p st) { D with nx := fun s' H' => LiftS cm K W g D s' H' } := by
  unfold sSeq at h
  cases q : f p st with
  | nx p1 st1 => rw [q] at h; exact fun m' H' s' e rs re => ⟨m', p1, st1, re, rs, PostS.at h e rs⟩
  | rt d st1 => rw [q] at h; exact h
  | bk p1 st1 => rw [q] at h; exact h
  | ct p1 st1 => rw [q] at h; exact h
  | xc x p1 st1 => rw [q] at h; exact h
  | bad => rw [q] at h; exact h
theorem dss_cons (h1 : DS cm W X s1 f) (h2 : DSs cm W X ss g) : DSs cm W X (s1 :: ss) (sSeq f g) := pssI (pss_cons h1 h2) fun D s H h => by
  obtain ⟨m, p, st, re, rs, h⟩ := h
  exact ⟨m, p, st, re, rs, seq_post h⟩
theorem dss_one (h1 : DS cm W X s1 f) : DSs cm W X [s1] f := pss_one h1
theorem ds_pass : DS cm W X (.Pass pos) sNil := psI ps_pass fun D s H h => by
  obtain ⟨m, p, st, re, rs, h⟩ := h
  exact h m H s Ext.refl rs re
theorem ds_ret (he : DE cm W X e fa) : DS cm W X (.Return (some e) pos) (sRet fa) := psI (ps_ret he) fun D s H h => by
  obtain ⟨m, p, st, re, rs, h⟩ := h
  exact ⟨m, p, st, re, rs, PostS.split re rs h fun d st1 m1 H1 v e1 x1 rs1 r1 h1 => h1 m1 H1 v Ext.refl rs1 r1⟩
theorem ds_retN : DS cm W X (.Return none pos) sRetN := psI ps_retN fun D s H h => by
  obtain ⟨m, p, st, re, rs, h⟩ := h
  exact h m H .non Ext.refl rs (by simp [RV])
theorem ds_expr (he : DE cm W X e fa) (hs : swapsWith e none pos.line X.env = pure false := by rfl) : DS cm W X (.Expr e pos) (sExpr fa) := psI (ps_expr he hs) fun D s H h => by
  obtain ⟨m, p, st, re, rs, h⟩ := h
  exact ⟨m, p, st, re, rs, PostS.split re rs h fun d st1 m1 H1 v e1 x1 rs1 r1 h1 => h1 m1 H1 s Ext.refl rs1 (re.ext rs x1)⟩
theorem ds_if {a b : List Stmt} (hc : DT cm W X c ft) (ha : DSs cm W X a f) (hb : DSs cm W X b g) : DS cm W X (.If c a b pos) (sIf ft f g) := psI (ps_if hc ha hb) fun D s H h => by
  obtain ⟨m, p, st, re, rs, h⟩ := h
  refine ⟨m, p, st, re, rs, PostS.split re rs h fun d st1 m1 H1 v e1 x1 rs1 r1 h1 => ?_⟩
  subst r1
  cases d with
  | true => exact ⟨m1, p, st1, re.ext rs x1, rs1, h1⟩
  | false => exact ⟨m1, p, st1, re.ext rs x1, rs1, h1⟩
theorem asg_post {K : PySem.W.Frag} {D : Ends} {l : List Nat} {tg : TgF} {s : L2.St} {H : Hp} (h : LiftS cm K W (sAsg fa tg) D s H) : LiftE cm K W fa s H fun x H1 => LiftTg K l tg x s H1 D.nx := by
  obtain ⟨m, p, st, re, rs, h⟩ := h
  refine ⟨m, p, st, re, rs, PostS.split re rs h fun d st1 m1 H1 v e1 x1 rs1 r1 h1 => ⟨m1, p, st1, d, re.ext rs x1, rs1, r1, ?_⟩⟩
  cases q : tg d p st1 with
  | none => rw [q] at h1; exact h1.elim
  | some p1 => rw [q] at h1; exact fun s' re' _ => h1 m1 H1 s' Ext.refl rs1 re'
theorem ds_asg {tg : Expr} {l : List Nat} {ftg : TgF} (he : DE cm W X e fa) (hg : DG X tg l ftg) (hs : swapsWithSole [tg] e pos.line X.env = pure false := by rfl) (hw : swappedStores [tg] e X.env = pure none := by rfl)
    (h1 : (assignEach [tg] X.env).map (·.2) = [assign tg X.env] := by rfl) : DS cm W X (.Assign [tg] e pos) (sAsg fa ftg) := psI (ps_asg he hg hs hw h1) fun D s H h => asg_post h
theorem psIL {e : Stmt} {t t' : TS} (h : PS X e t) (i : ∀ D s H, s.length = X.N.length → t' D s H → t D s H) : PS X e t' := ⟨fun pins s σ H Q I q => h.run pins s σ H Q I (i _ _ _ I.len q)⟩
theorem ds_set {i : Nat} {x : Str} (hN : X.N.Nodup) (he : DE cm W X e fa) (hi : X.N[i]? = some x := by rfl) (hx : Loc X.env.scope x := by first | exact Or.inl rfl | exact Or.inr rfl) (hs : swapsWith e (some (.Name x pos')) pos.line X.env = pure false := by rfl)
    (hf : X.fn x = true ∨ X.env.scope.names.lookup x = some .local := by first | exact .inl rfl | exact .inr rfl | assumption) : DS cm W X (.Assign [.Name x pos'] e pos) (sAsg fa (gNameF i)) :=
  psIL (ps_set hN hi hx he hs hf) fun D s H hl h => by
    obtain ⟨m, p, st, re, rs, h⟩ := h
    refine ⟨m, p, st, re, rs, PostS.split re rs h fun d st1 m1 H1 v e1 x1 rs1 r1 h1 => ?_⟩
    exact h1 m1 H1 _ Ext.refl rs1 ((re.ext rs x1).set (by rw [hl]; exact (List.getElem?_eq_some_iff.mp hi).1) r1)
/-- name = [..], on one line -/
theorem ds_setLc {i : Nat} {y : Str} {py : Pos} {elt tg iter : Expr} {ifs : List Expr} {scope : Scope} {own : List (Str × Nat)} {spos : Pos} {fi : IF} {ftg : TgF} {ftt : TF1} {fe : EF} {l : List Nat} (hc : X.calm = true) (hN : X.N.Nodup) (hi : DI cm W X tg iter fi) (ok : BlkOk X.N X.env.scope scope own)
    (hg : ∀ (s : Shared) (H : Hp) (C : Addr) (cl : List (Str × Addr)) (fp : List Addr), DG (X.blk s H scope (compEnvC scope cl C X.env) fp) tg l ftg) (ht : ∀ (s : Shared) (H : Hp) (C : Addr) (cl : List (Str × Addr)) (fp : List Addr), DTs cm W0 (X.blk s H scope (compEnvC scope cl C X.env) fp) ifs ftt)
    (he : ∀ (s : Shared) (H : Hp) (C : Addr) (cl : List (Str × Addr)) (fp : List Addr), DE cm W0 (X.blk s H scope (compEnvC scope cl C X.env) fp) elt fe) (hy : X.N[i]? = some y := by rfl) (hyl : X.env.scope.names.lookup y = some .local := by rfl)
    (hsw : swapsWith (.ListComp elt [⟨tg, iter, ifs, 0⟩] scope pos) (some (.Name y py)) spos.line X.env = pure true := by exact sw_true rfl rfl rfl (by decide +kernel)) (hl : ∀ j ∈ l, j ∈ own.map (·.2) := by decide) (hs : ∀ x, foldedSetIterable iter X.env x = pure x := by intro _; rfl) :
    DS cm W X (.Assign [.Name y py] (.ListComp elt [⟨tg, iter, ifs, 0⟩] scope pos) spos) (sAsg (eLC fi (own.map (·.2)) ftg ftt fe) (gNameF i)) :=
  psIL (ps_setLc (g := LiftTg X.K l ftg) (tt := LiftT cm X.K W0 ftt) (te := LiftE cm X.K W0 fe) hc hN hy hyl hsw hi ok hg ht he hs) fun D s H hlen h => by
    refine lift_lc (wi := LiftI cm X.K W fi) hl ?_
    obtain ⟨m, p, st, re, rs, h⟩ := h
    refine ⟨m, p, st, re, rs, PostS.split re rs h fun d st1 m1 H1 v e1 x1 rs1 r1 h1 => ?_⟩
    exact h1 m1 H1 _ Ext.refl rs1 ((re.ext rs x1).set (by rw [hlen]; exact (List.getElem?_eq_some_iff.mp hy).1) r1)
theorem ds_par2 {i j : Nat} {x y : Str} {a b : Expr} {fs : AF} {px py pt : Pos} {kt k2 pt2} (hc : X.calm = true) (hN : X.N.Nodup) (ha : DA cm W X [a, b] fs) (hi : X.N[i]? = some x := by rfl) (hj : X.N[j]? = some y := by rfl) (hij : i ≠ j := by decide)
    (hx : X.env.scope.names.lookup x = some .local := by rfl) (hy : X.env.scope.names.lookup y = some .local := by rfl)
    (hw : swappedStores [.Tuple [.Name x px, .Name y py] kt pt] (.Tuple [a, b] k2 pt2) X.env = pure (some [x, y]) := by rfl)
    (hs : swapsWithSole [.Tuple [.Name x px, .Name y py] kt pt] (.Tuple [a, b] k2 pt2) pos.line X.env = pure false := by rfl) :
    DS cm W X (.Assign [.Tuple [.Name x px, .Name y py] kt pt] (.Tuple [a, b] k2 pt2) pos) (sPar2 i j fs) :=
  psIL (ps_par hc hN hi hj hij hx hy ha hw hs) fun D s H hlen h => by
    obtain ⟨m, p, st, re, rs, h⟩ := h
    refine ⟨m, p, st, re, rs, PostS.split re rs h fun d st1 m1 H1 v e1 x1 rs1 r1 h1 => ?_⟩
    split at h1
    · simp only [RVs] at r1
      obtain ⟨v1, _, rfl, q1, v2, _, rfl, q2, rfl⟩ := r1
      exact ⟨v1, v2, rfl, h1 m1 H1 _ Ext.refl rs1 (((re.ext rs x1).set (by rw [hlen]; exact (List.getElem?_eq_some_iff.mp hi).1) q1).set (by rw [List.length_set, hlen]; exact (List.getElem?_eq_some_iff.mp hj).1) q2)⟩
    · exact h1.elim
theorem ds_par3 {i j k : Nat} {x y z : Str} {a b c : Expr} {fs : AF} {px py pz pt : Pos} {kt k2 pt2} (hc : X.calm = true) (hN : X.N.Nodup) (ha : DA cm W X [a, b, c] fs) (hi : X.N[i]? = some x := by rfl) (hj : X.N[j]? = some y := by rfl) (hk : X.N[k]? = some z := by rfl) (hij : i ≠ j := by decide) (hik : i ≠ k := by decide) (hjk : j ≠ k := by decide)
    (hx : X.env.scope.names.lookup x = some .local := by rfl) (hy : X.env.scope.names.lookup y = some .local := by rfl) (hz : X.env.scope.names.lookup z = some .local := by rfl)
    (hw : swappedStores [.Tuple [.Name x px, .Name y py, .Name z pz] kt pt] (.Tuple [a, b, c] k2 pt2) X.env = pure (some [x, y, z]) := by rfl)
    (hs : swapsWithSole [.Tuple [.Name x px, .Name y py, .Name z pz] kt pt] (.Tuple [a, b, c] k2 pt2) pos.line X.env = pure false := by rfl) :
    DS cm W X (.Assign [.Tuple [.Name x px, .Name y py, .Name z pz] kt pt] (.Tuple [a, b, c] k2 pt2) pos) (sPar3 i j k fs) :=
  psIL (ps_par3 hc hN hi hj hk hij hik hjk hx hy hz ha hw hs) fun D s H hlen h => by
    obtain ⟨m, p, st, re, rs, h⟩ := h
    refine ⟨m, p, st, re, rs, PostS.split re rs h fun d st1 m1 H1 v e1 x1 rs1 r1 h1 => ?_⟩
    split at h1
    · simp only [RVs] at r1
      obtain ⟨v1, _, rfl, q1, v2, _, rfl, q2, v3, _, rfl, q3, rfl⟩ := r1
      exact ⟨v1, v2, v3, rfl, h1 m1 H1 _ Ext.refl rs1 ((((re.ext rs x1).set (by rw [hlen]; exact (List.getElem?_eq_some_iff.mp hi).1) q1).set (by rw [List.length_set, hlen]; exact (List.getElem?_eq_some_iff.mp hj).1) q2).set (by rw [List.length_set, List.length_set, hlen]; exact (List.getElem?_eq_some_iff.mp hk).1) q3)⟩
    · exact h1.elim
end
end
end Mi
set_option Elab.async false
set_option linter.all false
set_option maxRecDepth 100000
set_option maxHeartbeats 4000000
/-! Mi4: loops, stores, slices, methods, calls, defs. -/
namespace Mi
open PySem PySem.Spec L2
open PyProof.Rows hiding St

/-! ### loops -/
open Classical in
noncomputable def forGo (still : Store → Prop) (tg : TgF) (body : SF) : List D → SF
  | [], p, st => if still st then .nx p st else .bad
  | d :: ds, p, st => if still st then (match tg d p st with
    | none => .bad
    | some p1 => match body p1 st with
      | .nx p2 st2 => forGo still tg body ds p2 st2
      | .ct p2 st2 => forGo still tg body ds p2 st2
      | .bk p2 st2 => .nx p2 st2
      | r => r) else .bad
noncomputable def sFor (fi : IF) (tg : TgF) (body : SF) : SF := fun p st => bindS p (fi p st) fun it st1 => forGo it.still tg body it.items p st1
def whGo (t : TF1) (body : SF) : Nat → SF
  | 0, _, _ => .bad
  | n + 1, p, st => bindS p (t p st) fun b st1 => if b = true then (match body p st1 with
      | .nx p2 st2 => whGo t body n p2 st2
      | .ct p2 st2 => whGo t body n p2 st2
      | .bk p2 st2 => .nx p2 st2
      | r => r) else .nx p st1
section
variable {cm : Str → Option Value} {W : WX} {X : Cx} {pos : Pos}
theorem for_turns {K : PySem.W.Frag} {ftg : TgF} {fb : SF} {l : List Nat} {it : IT} {J : It} {m1 : List Addr} {H1 : Hp} {st1 : Store} {p : Rho} {s : L2.St} {D : Ends}
    (re : RE K m1 H1 p s) (rs1 : RSt K m1 H1 st1) (ir : ItRel K m1 H1 it J) (h : PostS cm K W m1 H1 (forGo it.still ftg fb it.items p st1) D) :
    ∃ Wv : Nat → Nat → L2.St → Hp → Prop, (∃ m, Wv 0 m s H1) ∧ ∀ i m s H, Wv i m s H →
      (J.stop i H ∧ D.nx s H) ∨ (J.go i H ∧ ∃ N : L2.St → Hp → Prop, (∀ s' H', N s' H' → ∃ m', m' < m ∧ Wv (i + 1) m' s' H') ∧ ∀ x H', J.yld i H x H' → LiftTg K l ftg x s H' fun s2 H2 => LiftS cm K W fb { D with nx := N, ct := N, bk := D.nx } s2 H2) := by
  let P : Nat → L2.St → Hp → Prop := fun i s H => ∃ m2 p' st', Ext m1 H1 m2 H ∧ RSt K m2 H st' ∧ RE K m2 H p' s ∧ PostS cm K W m2 H (forGo it.still ftg fb (it.items.drop i) p' st') D
  refine ⟨fun i m s H => m = it.items.length - i ∧ i ≤ it.items.length ∧ P i s H, ⟨_, rfl, Nat.zero_le _, m1, p, st1, Ext.refl, rs1, re, by simpa using h⟩, ?_⟩
  rintro i mm s2 H ⟨rfl, hi, m2, p', st', x2, rs2, re2, h2⟩
  by_cases hlt : i < it.items.length
  · right
    have hd : it.items[i]? = some it.items[i] := List.getElem?_eq_getElem hlt
    rw [List.drop_eq_getElem_cons hlt] at h2
    unfold forGo at h2
    split at h2
    · rename_i hstill
      obtain ⟨jgo, jy⟩ := ir.1 i _ m2 H st' hd x2 rs2 hstill
      refine ⟨jgo, P (i + 1), fun s' H' q => ⟨it.items.length - (i + 1), by omega, rfl, hlt, q⟩, fun x H' hy => ?_⟩
      obtain ⟨x3, rs3, rx⟩ := jy x H' hy
      refine ⟨m2, p', st', it.items[i], re2.ext rs2 x3, rs3, rx, ?_⟩
      cases qt : ftg it.items[i] p' st' with
      | none => rw [qt] at h2; exact h2.elim
      | some p1 =>
        rw [qt] at h2
        dsimp only at h2
        refine fun s3 re3 sm => ⟨m2, p1, st', re3, rs3, ?_⟩
        have h3 := PostS.at h2 x3 rs3
        cases qb : fb p1 st' with
        | nx p2 st2 => rw [qb] at h3; exact fun m' H'' s' e rs re => ⟨m', p2, st2, (x2.trans rs2 x3).trans rs3 e, rs, re, PostS.at h3 e rs⟩
        | ct p2 st2 => rw [qb] at h3; exact fun m' H'' s' e rs re => ⟨m', p2, st2, (x2.trans rs2 x3).trans rs3 e, rs, re, PostS.at h3 e rs⟩
        | bk p2 st2 => rw [qb] at h3; exact h3
        | rt d st2 => rw [qb] at h3; exact h3
        | xc e p2 st2 => rw [qb] at h3; exact h3
        | bad => rw [qb] at h3; exact h3
    · exact h2.elim
  · left
    have e : i = it.items.length := by omega
    subst e
    rw [List.drop_length] at h2
    unfold forGo at h2
    split at h2
    · rename_i hstill
      exact ⟨ir.2 m2 H st' x2 rs2 hstill, h2 m2 H s2 Ext.refl rs2 re2⟩
    · exact h2.elim
theorem ds_for {tg iter : Expr} {body : List Stmt} {fi : IF} {l : List Nat} {ftg : TgF} {fb : SF} (hp : PassesOwn (model X.prog X.w) X.A X.env X.xe) (hc : X.calm = true) (hi : DI cm W X tg iter fi) (hg : DG X tg l ftg) (hb : DSs cm W X body fb)
    (hs : ∀ x, foldedSetIterable iter X.env x = pure x := by intro _; rfl) : DS cm W X (.For tg iter body [] pos) (sFor fi ftg fb) :=
  psI (ps_for hp hc hi hg hb hs) fun D s H h => by
    obtain ⟨m, p, st, re, rs, h⟩ := h
    exact ⟨m, p, st, re, rs, PostS.split re rs h fun it st1 m1 H1 J e1 x1 rs1 ir h1 => for_turns (l := l) (re.ext rs x1) rs1 ir h1⟩
theorem ds_while {c : Expr} {body : List Stmt} {ft : TF1} {fb : SF} (n : Nat) (hp : PassesOwn (model X.prog X.w) X.A X.env X.xe) (hc : DT cm W X c ft) (hb : DSs cm W X body fb) : DS cm W X (.While c body [] pos) (whGo ft fb n) :=
  psI (ps_while hp hc hb) fun D s H h => by
    obtain ⟨m, p, st, re, rs, h⟩ := h
    refine ⟨fun k s H => ∃ m p st, RE X.K m H p s ∧ RSt X.K m H st ∧ PostS cm X.K W m H (whGo ft fb k p st) D, ⟨n, m, p, st, re, rs, h⟩, ?_⟩
    rintro k s H ⟨m, p, st, re, rs, h⟩
    cases k with
    | zero => exact h.elim
    | succ k =>
      refine ⟨m, p, st, re, rs, PostS.split re rs h fun d st1 m1 H1 v e1 x1 rs1 r1 h1 => ?_⟩
      subst r1
      cases d with
      | false => exact h1 m1 H1 s Ext.refl rs1 (re.ext rs x1)
      | true =>
        rw [if_pos rfl]
        rw [if_pos rfl] at h1
        refine ⟨fun s' H' => ∃ m p st, RE X.K m H' p s' ∧ RSt X.K m H' st ∧ PostS cm X.K W m H' (whGo ft fb k p st) D, fun s' H' q => ⟨k, Nat.lt_succ_self k, q⟩, m1, p, st1, re.ext rs x1, rs1, ?_⟩
        cases qb : fb p st1 with
        | nx p2 st2 => rw [qb] at h1; exact fun m' H'' s' e rs re => ⟨m', p2, st2, re, rs, PostS.at h1 e rs⟩
        | ct p2 st2 => rw [qb] at h1; exact fun m' H'' s' e rs re => ⟨m', p2, st2, re, rs, PostS.at h1 e rs⟩
        | bk p2 st2 => rw [qb] at h1; exact h1
        | rt d st2 => rw [qb] at h1; exact h1
        | xc e p2 st2 => rw [qb] at h1; exact h1
        | bad => rw [qb] at h1; exact h1
end

/-! ### dicts -/
def kvGet (kvs : List (Key × D)) (k : Key) : Option D := (kvs.find? fun kv => decide (kv.1 = k)).map (·.2)
def kvPut (kvs : List (Key × D)) (k : Key) (v : D) : List (Key × D) :=
  if (kvs.any fun kv => decide (kv.1 = k)) = true then kvs.map (fun kv => if kv.1 = k then (kv.1, v) else kv) else kvs ++ [(k, v)]
section
variable {K : PySem.W.Frag} {m : List Addr} {H : Hp}
theorem RKs.inv {k : Key} {d : D} {kvs : List (Key × D)} {ws : List (Key × V)} (h : RKs K m H ((k, d) :: kvs) ws) : ∃ v wr, ws = (k, v) :: wr ∧ RV K m H d v ∧ RKs K m H kvs wr := by
  obtain ⟨h1, h2⟩ := h
  cases ws with
  | nil => simp at h1
  | cons w wr =>
    simp only [List.map_cons, List.cons.injEq, RVs] at h1 h2
    obtain ⟨v, vr, ⟨e1, e2⟩, r, h2⟩ := h2
    refine ⟨v, wr, ?_, r, h1.2, ?_⟩
    · rw [h1.1, ← e1]
    · rw [e2]; exact h2
theorem RKs.nil_inv {ws : List (Key × V)} (h : RKs K m H [] ws) : ws = [] := by
  obtain ⟨h1, _⟩ := h
  cases ws with
  | nil => rfl
  | cons w wr => simp at h1
theorem RKs.cons {k : Key} {d : D} {v : V} {kvs : List (Key × D)} {ws : List (Key × V)} (r : RV K m H d v) (h : RKs K m H kvs ws) : RKs K m H ((k, d) :: kvs) ((k, v) :: ws) :=
  ⟨by simp [h.1], by simp only [List.map_cons]; exact RVs.cons r h.2⟩
theorem RKs.nil : RKs K m H [] [] := ⟨rfl, by simp [RVs]⟩
theorem RKs.length {kvs : List (Key × D)} {ws : List (Key × V)} (h : RKs K m H kvs ws) : kvs.length = ws.length := by
  have := congrArg List.length h.1
  simpa using this
theorem RKs.get (k : Key) : ∀ {kvs : List (Key × D)} {ws : List (Key × V)}, RKs K m H kvs ws → ∀ {d : D}, kvGet kvs k = some d → ∃ v, valV ws k = some v ∧ RV K m H d v
  | [], ws, h, d, e => by cases e
  | (k0, d0) :: kvs, ws, h, d, e => by
    obtain ⟨v, wr, rfl, r, h⟩ := h.inv
    by_cases hk : k0 = k
    · rw [valV_pos hk]
      have : d0 = d := by simpa [kvGet, List.find?_cons, hk] using e
      subst this
      exact ⟨v, rfl, r⟩
    · rw [valV_neg hk]
      exact RKs.get k h (by simpa [kvGet, List.find?_cons, hk] using e)
theorem RKs.any (k : Key) {kvs : List (Key × D)} {ws : List (Key × V)} (h : RKs K m H kvs ws) : (kvs.any fun kv => decide (kv.1 = k)) = (ws.any fun kv => decide (kv.1 = k)) := by
  have e1 : (kvs.any fun kv => decide (kv.1 = k)) = (kvs.map (·.1)).any fun x => decide (x = k) := by rw [List.any_map]; rfl
  have e2 : (ws.any fun kv => decide (kv.1 = k)) = (ws.map (·.1)).any fun x => decide (x = k) := by rw [List.any_map]; rfl
  rw [e1, e2, h.1]
theorem RKs.append : ∀ {kvs kvs' : List (Key × D)} {ws ws' : List (Key × V)}, RKs K m H kvs ws → RKs K m H kvs' ws' → RKs K m H (kvs ++ kvs') (ws ++ ws')
  | [], _, ws, _, h, h' => by rw [h.nil_inv]; exact h'
  | (k, d) :: kvs, _, ws, _, h, h' => by
    obtain ⟨v, wr, rfl, r, h⟩ := h.inv
    exact RKs.cons r (RKs.append h h')
theorem RKs.put (k : Key) {d : D} {v : V} (r : RV K m H d v) {kvs : List (Key × D)} {ws : List (Key × V)} (h : RKs K m H kvs ws) : RKs K m H (kvPut kvs k d) (putK ws k v) := by
  unfold kvPut putK
  rw [h.any k]
  split
  · have : ∀ {kvs : List (Key × D)} {ws : List (Key × V)}, RKs K m H kvs ws → RKs K m H (kvs.map fun kv => if kv.1 = k then (kv.1, d) else kv) (ws.map fun kv => if kv.1 = k then (kv.1, v) else kv) := by
      intro kvs
      induction kvs with
      | nil => intro ws h; rw [h.nil_inv]; exact RKs.nil
      | cons q kvs ih =>
        intro ws h
        obtain ⟨k0, d0⟩ := q
        obtain ⟨v0, wr, rfl, r0, h⟩ := h.inv
        simp only [List.map_cons]
        by_cases hk : k0 = k
        · rw [if_pos hk, if_pos hk]; exact RKs.cons r (ih h)
        · rw [if_neg hk, if_neg hk]; exact RKs.cons r0 (ih h)
    exact this h
  · exact h.append (RKs.cons r RKs.nil)
theorem RKs.ext0 {m' : List Addr} {H' : Hp} (e : Ext0 m H m' H') {kvs : List (Key × D)} {ws : List (Key × V)} (h : RKs K m H kvs ws) : RKs K m' H' kvs ws := ⟨h.1, RVs.ext0 e _ h.2⟩
theorem ext0_over {a : Addr} {o u : HO} (h : H a = some u) (ht : ¬ TF u) : Ext0 m H m (upd H a o) := by
  simpa using ext0_touch (m := m) (o := o) (fun u' e => by rw [h] at e; cases e; exact ht) (n := [])
theorem tf_no_lst {vs : List V} : ¬ TF (.lst vs) := fun t => by rcases t with ⟨_, t⟩ | ⟨_, _, t⟩ | ⟨_, t⟩ <;> cases t
theorem tf_no_dK {vs : List (Key × V)} : ¬ TF (.dK vs) := fun t => by rcases t with ⟨_, t⟩ | ⟨_, _, t⟩ | ⟨_, t⟩ <;> cases t
end

/-! ### stores to items -/
def setItemF (o i d : D) (st : Store) : Option Store := match o, i with
  | .ref l, .str x => match st[l]? with
    | some (.dic kvs) => if kvs.length < LIM then some (st.set l (.dic (kvPut kvs (Sum.inr x) d))) else none
    | _ => none
  | .ref l, .int k => match st[l]? with
    | some (.dic kvs) => if kvs.length < LIM then some (st.set l (.dic (kvPut kvs (Sum.inl k) d))) else none
    | some (.lst ds) => (ixN ds.length k).map fun j => st.set l (.lst (ds.set j d))
    | _ => none
  | _, _ => none
/-- o[i] = e: the value first -/
def sSub (o i a : EF) : SF := fun p st => bindS p (a p st) fun d st1 => bindS p (o p st1) fun od st2 => bindS p (i p st2) fun id st3 => match setItemF od id d st3 with
  | some st4 => .nx p st4
  | none => .bad
section
variable {cm : Str → Option Value} {W : WX} {X : Cx} {pos : Pos}
def LSet (K : PySem.W.Frag) : TSet := fun o i v H Q => ∃ m st od id d, RSt K m H st ∧ RV K m H od o ∧ RV K m H id i ∧ RV K m H d v ∧ match setItemF od id d st with
  | some st' => ∀ m' H', Ext m H m' H' → RSt K m' H' st' → Q H'
  | none => False
theorem set_dic (hu : X.A.units + 1 < cLine) {pins : List (Addr × Obj)} {s : Shared} {σ : L2.St} {H : Hp} {a : Addr} {k : Key} {v : V} {iv u : Value} {Q : Hp → Prop} {m : List Addr} {st : Store} {l : Nat} {d : D} {kvs : List (Key × D)} (I : Inv X pins σ H s) (ri : RelV (kV k) iv) (rv : RelV v u)
    (rs : RSt X.K m H st) (ha : m[l]? = some a) (hs : st[l]? = some (.dic kvs)) (hlen : kvs.length < LIM) (rd : RV X.K m H d v)
    (h : ∀ m' H', Ext m H m' H' → RSt X.K m' H' (st.set l (.dic (kvPut kvs k d))) → Q H') : wpAny (model X.prog X.w) X.A (setItem (.ref a) iv u) (fun _ s' => ∃ H', Inv X pins σ H' s' ∧ Q H') X.xe s := by
  obtain ⟨ws, h1, h2⟩ := rs.dic ha hs
  refine d_setItem hu I (DPut.k h1 (by rw [← h2.length, lim_eq]; exact hlen)) ri rv fun s' I' => ⟨_, I', ?_⟩
  have e0 : Ext0 m H m (upd H a (.dK (putK ws k v))) := ext0_over h1 tf_no_dK
  exact h m _ (ext_write (List.mem_of_getElem? ha)) (rs.write ha ⟨_, upd_same, (h2.ext0 e0).put k (RV.ext0 e0 _ rd)⟩)
theorem set_any (hu : X.A.units + 1 < cLine) : PSet X (LSet X.K) := by
  intro pins s σ H o i v ov iv u Q I ro ri rv h
  obtain ⟨m, st, od, id, d, rs, r1, r2, r3, h⟩ := h
  cases od with
  | ref l =>
    simp only [RV] at r1
    obtain ⟨a, rfl, ha⟩ := r1
    cases id with
    | str x =>
      simp only [RV] at r2
      subst r2
      cases hs : st[l]? with
      | none => simp only [setItemF, hs] at h
      | some ob =>
        cases ob with
        | lst ds => simp only [setItemF, hs] at h
        | dic kvs =>
          simp only [setItemF, hs] at h
          by_cases hl : kvs.length < LIM
          · rw [if_pos hl] at h
            cases ro
            exact set_dic hu (k := Sum.inr x) I ri rv rs ha hs hl r3 h
          · rw [if_neg hl] at h; exact h.elim
    | int k =>
      simp only [RV] at r2
      subst r2
      cases hs : st[l]? with
      | none => simp only [setItemF, hs] at h
      | some ob =>
        cases ob with
        | dic kvs =>
          simp only [setItemF, hs] at h
          by_cases hl : kvs.length < LIM
          · rw [if_pos hl] at h
            cases ro
            exact set_dic hu (k := Sum.inl k) I ri rv rs ha hs hl r3 h
          · rw [if_neg hl] at h; exact h.elim
        | lst ds =>
          simp only [setItemF, hs] at h
          cases hj : ixN ds.length k with
          | none => rw [hj] at h; exact h.elim
          | some j =>
            rw [hj] at h
            obtain ⟨vs, h1, h2⟩ := rs.lst ha hs
            refine set_list pins s σ H _ _ v ov iv u Q I ro ri rv ⟨a, vs, k, j, rfl, rfl, h1, by rw [← h2.len]; exact hj, ?_⟩
            have e0 : Ext0 m H m (upd H a (.lst (vs.set j v))) := ext0_over h1 tf_no_lst
            exact h m _ (ext_write (List.mem_of_getElem? ha)) (rs.write ha ⟨_, upd_same, RVs.set j (RV.ext0 e0 _ r3) (RVs.ext0 e0 _ h2)⟩)
    | _ => exact h.elim
  | _ => exact h.elim
theorem ds_sub {o i e : Expr} {fo fi fe : EF} {p2 : Pos} (hu : X.A.units + 1 < cLine) (ho : DE cm W X o fo) (hi : DE cm W X i fi) (he : DE cm W X e fe)
    (ha : ∀ v, assign (.Subscript o i p2) X.env v = (do
      let ov ← holding [v] (eval o X.env)
      let iv ← holding [v, ov] (eval i X.env)
      standAt p2
      holding [v, ov, iv] (setItem ov iv v)
      release [v, ov, iv] []) := by intro _; rfl)
    (hs : swapsWithSole [.Subscript o i p2] e pos.line X.env = pure false := by rfl) (hw : swappedStores [.Subscript o i p2] e X.env = pure none := by rfl)
    (h1 : (assignEach [.Subscript o i p2] X.env).map (·.2) = [assign (.Subscript o i p2) X.env] := by rfl) : DS cm W X (.Assign [.Subscript o i p2] e pos) (sSub fo fi fe) :=
  psI (ps_asg he (pg_sub ho hi (set_any hu) ha) hs hw h1) fun D s H h => by
    obtain ⟨m, p, st, re, rs, h⟩ := h
    refine ⟨m, p, st, re, rs, PostS.split re rs h fun d st1 m1 H1 v e1 x1 rs1 r1 h1 => ?_⟩
    refine ⟨m1, p, st1, re.ext rs x1, rs1, PostS.split (re.ext rs x1) rs1 h1 fun d2 st2 m2 H2 v2 e2 x2 rs2 r2 h2 => ?_⟩
    refine ⟨m2, p, st2, (re.ext rs x1).ext rs1 x2, rs2, PostS.split ((re.ext rs x1).ext rs1 x2) rs2 h2 fun d3 st3 m3 H3 v3 e3 x3 rs3 r3 h3 => ?_⟩
    refine ⟨m3, st3, d2, d3, d, rs3, RV.ext rs2 x3 _ r2, r3, RV.ext rs2 x3 _ (RV.ext rs1 x2 _ r1), ?_⟩
    have re3 := ((re.ext rs x1).ext rs1 x2).ext rs2 x3
    cases q : setItemF d2 d3 d st3 with
    | none => rw [q] at h3; exact h3.elim
    | some st4 => rw [q] at h3; exact fun m' H' x rs' => h3 m' H' s x rs' (re3.ext rs3 x)
end

/-! ### slices -/
abbrev OF := Rho → Store → R (Option Int)
def oNone : OF := fun _ st => .ok none st
def oSome (a : EF) : OF := fun p st => bindR (a p st) fun d st1 => match d with
  | .int i => .ok (some i) st1
  | _ => .bad
def eSl (g : D → Option Int → Option Int → Store → Option (D × Store)) (a : EF) (lo hi : OF) : EF := fun p st => bindR (a p st) fun x st1 => bindR (lo p st1) fun l st2 => bindR (hi p st2) fun h st3 => optR (g x l h st3)
section
variable {cm : Str → Option Value} {W : WX} {X : Cx} {pos p2 : Pos}
def DO (cm : Str → Option Value) (W : WX) (X : Cx) (e : Option Expr) (f : OF) : Prop := PO X e (LiftG cm X.K (fun _ _ (a b : Option Int) => a = b) W f)
theorem poI {e : Option Expr} {t t' : TO} (h : PO X e t) (i : ∀ s H Q, t' s H Q → t s H Q) : PO X e t' := ⟨fun pins s σ H Q I q => h.run pins s σ H Q I (i _ _ _ q)⟩
theorem do_none : DO cm W X none oNone := poI po_none fun s H Q h => by
  obtain ⟨m, p, st, re, rs, h⟩ := h
  exact h m H none Ext.refl rs rfl
theorem do_some {e : Expr} {f : EF} (h : DE cm W X e f) : DO cm W X (some e) (oSome f) := poI (po_some h) fun s H Q h => by
  obtain ⟨m, p, st, re, rs, h⟩ := h
  refine ⟨m, p, st, re, rs, Post.split h fun d st1 m1 H1 v e1 x1 rs1 r1 h1 => ?_⟩
  cases d with
  | int i => exact ⟨i, by simpa [RV] using r1, h1 m1 H1 _ Ext.refl rs1 rfl⟩
  | _ => exact h1.elim
def SlS (X : Cx) (g : D → Option Int → Option Int → Store → Option (D × Store)) : Prop :=
  SlR X fun x lo hi H Q => ∃ m st dx, RSt X.K m H st ∧ RV X.K m H dx x ∧ PostO X.K (RV X.K) m H (g dx lo hi st) Q
theorem de_slice {e : Expr} {lo hi : Option Expr} {f : EF} {fl fh : OF} {g : D → Option Int → Option Int → Store → Option (D × Store)} (hr : SlS X g) (he : DE cm W X e f) (hl : DO cm W X lo fl) (hh : DO cm W X hi fh) : DE cm W X (.Subscript e (.Slice lo hi none p2) pos) (eSl g f fl fh) :=
  peI (pe_slice hr he hl hh) fun s H Q h => by
    obtain ⟨m, p, st, re, rs, h⟩ := h
    refine ⟨m, p, st, re, rs, Post.split h fun d st1 m1 H1 v e1 x1 rs1 r1 h1 => ?_⟩
    refine ⟨m1, p, st1, re.ext rs x1, rs1, Post.split h1 fun l st2 m2 H2 v2 e2 x2 rs2 r2 h2 => ?_⟩
    refine ⟨m2, p, st2, (re.ext rs x1).ext rs1 x2, rs2, Post.split h2 fun h' st3 m3 H3 v3 e3 x3 rs3 r3 h3 => ?_⟩
    subst r2; subst r3
    exact ⟨m3, st3, d, rs3, RV.ext rs2 x3 _ (RV.ext rs1 x2 _ r1), PostO.of h3⟩
end

/-! ### methods -/
def tyD (T : String) (x : D) (st : Store) : Prop := match x with
  | .str _ => T = "str"
  | .ref l => (T = "list" ∧ ∃ ds, st[l]? = some (.lst ds)) ∨ (T = "dict" ∧ ∃ kvs, st[l]? = some (.dic kvs))
  | _ => False
open Classical in
noncomputable def eMt (T : String) (g : D → List D → Store → Option (D × Store)) (o : EF) (a : AF) : EF := fun p st => bindR (o p st) fun x st1 => if tyD T x st1 then bindR (a p st1) fun xs st2 => optR (g x xs st2) else .bad
section
variable {cm : Str → Option Value} {W : WX} {X : Cx} {pos apos cpos : Pos}
theorem tyD_v {K : PySem.W.Frag} {m : List Addr} {H : Hp} {st : Store} {T : String} {d : D} {v : V} (rs : RSt K m H st) (r : RV K m H d v) (t : tyD T d st) : tyV K T v H := by
  unfold tyD at t
  cases d with
  | str x => simp only [RV] at r; subst r; exact t
  | ref l =>
    simp only [RV] at r
    obtain ⟨a, rfl, ha⟩ := r
    rcases t with ⟨e, ds, h⟩ | ⟨e, kvs, h⟩
    · obtain ⟨vs, h1, _⟩ := rs.lst ha h
      exact .inl ⟨e, vs, SqL.of h1⟩
    · obtain ⟨vs, h1, _⟩ := rs.dic ha h
      exact .inr (.inr (.inl ⟨e, .inl ⟨vs, h1⟩⟩))
  | _ => exact t.elim
theorem de_m0 {o : Expr} {fo : EF} {name : Str} {T id : String} {g : D → List D → Store → Option (D × Store)} (pa : PlainAttrs T) (slot : Slot T name id) (hty : typeOf (.builtin id) = pure (.type "method_descriptor")) (hm : MtS X id g) (ho : DE cm W X o fo)
    (hbase : attributeBase o name X.env (eval o X.env) = eval o X.env := by rfl) (hline : (apos.endLine == cpos.line) = true := by rfl) : DE cm W X (.Call (.Attribute o name apos) [] [] cpos) (eMt T g fo aNil) :=
  peI (pe_bm0 pa slot hty hm ho hbase hline) fun s H Q h => by
    obtain ⟨m, p, st, re, rs, h⟩ := h
    refine ⟨m, p, st, re, rs, Post.split h fun d st1 m1 H1 v e1 x1 rs1 r1 h1 => ?_⟩
    split at h1
    · rename_i t
      exact ⟨tyD_v rs1 r1 t, m1, st1, d, [], rs1, r1, RVs.nil, PostO.of h1⟩
    · exact h1.elim
theorem de_m {o e : Expr} {es : List Expr} {fo : EF} {fs : AF} {name : Str} {T id : String} {g : D → List D → Store → Option (D × Store)} (pa : PlainAttrs T) (slot : Slot T name id) (hty : typeOf (.builtin id) = pure (.type "method_descriptor")) (hm : MtS X id g) (ho : DE cm W X o fo) (ha : DA cm W X (e :: es) fs)
    (hbase : attributeBase o name X.env (eval o X.env) = eval o X.env := by rfl)
    (hfew : ((backTo cpos (starEach (e :: es) X.env)).all (fun x => !x.1) && (backToKw cpos (keywordEach [] X.env)).all (fun x => x.1.isSome)
      && decide ((e :: es).length + ([] : List Keyword).length + (if ([] : List Keyword).isEmpty then 0 else 1) < 30)) = true := by rfl)
    (hline : (apos.endLine == cpos.line) = true := by rfl) (hs : starEach (e :: es) X.env = (false, eval e X.env) :: starEach es X.env := by rfl) (hplain : (backTo cpos (starEach es X.env)).any (·.1) = false := by rfl) : DE cm W X (.Call (.Attribute o name apos) (e :: es) [] cpos) (eMt T g fo fs) :=
  peI (pe_bm pa slot hty hm ho ha hbase hfew hline hs hplain) fun s H Q h => by
    obtain ⟨m, p, st, re, rs, h⟩ := h
    refine ⟨m, p, st, re, rs, Post.split h fun d st1 m1 H1 v e1 x1 rs1 r1 h1 => ?_⟩
    split at h1
    · rename_i t
      refine ⟨tyD_v rs1 r1 t, m1, p, st1, re.ext rs x1, rs1, Post.split h1 fun ds st2 m2 H2 v2 e2 x2 rs2 r2 h2 => ?_⟩
      exact ⟨m2, st2, d, ds, rs2, RV.ext rs1 x2 _ r1, r2, PostO.of h2⟩
    · exact h1.elim
end

/-! ### defs -/
def spD (cm : Str → Option Value) (K : PySem.W.Frag) (n : Nat) (F : FnF) : Sp := fun vs H Q E => vs.length = n ∧ ∃ m st ds, RSt K m H st ∧ RVs K m H ds vs ∧ Post cm K (RV K) (fun c d H' => E c d H') m H (F ds st) Q
/-- a def's promise, where no text of an object is being made around it -/
structure FnG (P : Program) (w : World) (K : PySem.W.Frag) (mg : Str → Option Value) (base : Heap) (k : Nat) (f : Addr) (fd : FuncData) (ps : List Str) (sp : Sp) : Prop where
  len : ∀ vs H Q E, sp vs H Q E → vs.length = ps.length
  go : ∀ (A : Around) (out : List Env) (s : Shared) (H : Hp) (args : Args) (us : List Value) (vs : List V) (Q : VK) (E : XK), A.guards = some [] → Room k A → Env0 P w K mg base A out s H →
    BindsTo s fd args (ps.zip us) → Vals vs us → sp vs H Q E → codeAny (model P w) A (.call (.ref f) args) (CR (L2.CX P w) out P w H s Q E) s
theorem FnG.mono {P : Program} {w : World} {K : PySem.W.Frag} {mg : Str → Option Value} {base : Heap} {k k' : Nat} {f : Addr} {fd : FuncData} {ps : List Str} {sp : Sp} (F : FnG P w K mg base k f fd ps sp) (h : k ≤ k') : FnG P w K mg base k' f fd ps sp :=
  ⟨F.len, fun A out s H args us vs Q E hg hr => F.go A out s H args us vs Q E hg (hr.mono h)⟩
/-- the def stands there, and does what F says -/
structure FnD (cm : Str → Option Value) (P : Program) (w : World) (K : PySem.W.Frag) (mg : Str → Option Value) (base : Heap) (k : Nat) (x : Str) (ps : List Str) (f : Addr) (fd : FuncData) (F : FnF) : Prop where
  ok : FnG P w K mg base k f fd ps (spD cm K ps.length F)
  at_ : mg x = some (.ref f)
  kp : PySem.W.keepIn K (.ref f) = true
  bd : Binds K fd ps []
theorem FnD.mono {cm : Str → Option Value} {P : Program} {w : World} {K : PySem.W.Frag} {mg : Str → Option Value} {base : Heap} {k k' : Nat} {x : Str} {ps : List Str} {f : Addr} {fd : FuncData} {F : FnF} (h : FnD cm P w K mg base k x ps f fd F) (hk : k ≤ k') : FnD cm P w K mg base k' x ps f fd F := ⟨h.ok.mono hk, h.at_, h.kp, h.bd⟩
section
variable {cm : Str → Option Value} {W : WX} {X : Cx} {pos : Pos}
theorem lift_spD {K : PySem.W.Frag} {fs : AF} {F : FnF} {n : Nat} {s : L2.St} {H : Hp} {Q : VK} (hn : ∀ p st ds st', fs p st = .ok ds st' → ds.length = n) (h : LiftE cm K W (eCall F fs) s H Q) : LiftA cm K W fs s H fun vs H1 => spD cm K n F vs H1 Q (fun c d H' => W c d s H') := by
  obtain ⟨m, p, st, re, rs, h⟩ := h
  refine ⟨m, p, st, re, rs, Post.split h fun ds st1 m1 H1 vs e1 x1 rs1 r1 h1 => ⟨?_, m1, st1, ds, rs1, r1, h1⟩⟩
  rw [← r1.len]; exact hn _ _ _ _ e1
/-- how many arguments -/
def ALen (f : AF) (n : Nat) : Prop := ∀ p st ds st', f p st = .ok ds st' → ds.length = n
theorem alen_nil : ALen aNil 0 := fun p st ds st' h => by cases h; rfl
theorem alen_cons {a : EF} {f : AF} {n : Nat} (h : ALen f n) : ALen (aCons a f) (n + 1) := fun p st ds st' e => by
  obtain ⟨x, st1, _, e⟩ := bindR_inv e
  obtain ⟨xs, st2, e2, e⟩ := bindR_inv e
  cases e
  rw [List.length_cons, h _ _ _ _ e2]
/-- behind a def's call -/
theorem run_G {k : Nat} {f : Addr} {fd : FuncData} {ps : List Str} {sp : Sp} {args : Args} {pins : List (Addr × Obj)} {σ : L2.St} {H : Hp} {s : Shared} {Q : VK} {us : List Value} {vs : List V} (F : FnG X.prog X.w X.K X.mg X.base k f fd ps sp) (tk : Takes X W) (hg : X.A.guards = some []) (hr : Room k X.A)
    (hb : BindsTo s fd args (ps.zip us)) (I : Inv X pins σ H s) (r : Vals vs us) (h : sp vs H Q (WE W σ)) : codeAny (model X.prog X.w) X.A (.call (.ref f) args) (fun r s' => match r with
      | .error e => X.xe e s'
      | .ok (.ret u) => EP X pins σ Q u s'
      | .ok _ => False) s := by
  refine codeAny_mono (F.go X.A X.stack s H args us vs Q _ hg hr I.env0 hb r h) fun r s' hq => ?_
  match r, hq with
  | .error e, hq => exact passAt tk σ pins H s e s' I hq
  | .ok (.ret u), hq => exact I.after hq
theorem de_call {k : Nat} {x : Str} {ps : List Str} {f : Addr} {fd : FuncData} {F : FnF} {e : Expr} {es : List Expr} {fs : AF} {pf : Pos} (G : FnD cm X.prog X.w X.K X.mg X.base k x ps f fd F) (tk : Takes X W) (hgd : X.A.guards = some []) (hr : Room k X.A) (hl : ALen fs ps.length) (ha : DA cm W X (e :: es) fs) (hg : Gl X x := by rfl)
    (hdb : (x == ("__debug__" : Str)) = false := by decide) (he : starEach (e :: es) X.env = (false, eval e X.env) :: starEach es X.env := by rfl) (hpl : (backTo pos (starEach es X.env)).any (·.1) = false := by rfl) : DE cm W X (.Call (.Name x pf) (e :: es) [] pos) (eCall F fs) := by
  refine ⟨fun pins s σ H Q I h => ?_⟩
  refine wpAny_Call_Name_kw (ld_glob I hg G.at_ ?_ hdb)
  refine PySem.W.callWith_K (h₀ := X.base) I.ok.mod.kin G.kp ?_ he hpl
  refine thn (ha.run pos pins s σ H _ I (lift_spD hl h)) fun us s1 ⟨vs, H1, I1, r, q⟩ => ⟨I1.kIn, ?_⟩
  have hu : us.length = ps.length := by rw [← r.length]; exact q.1
  have hb := G.bd s1 us I1.kIn (by rw [List.append_nil]; exact hu)
  rw [List.append_nil] at hb
  refine wpAny_call (codeAny_mono (run_G G.ok tk hgd hr hb I1 r q) fun r s' hq => ?_)
  match r, hq with
  | .error e, hq => exact hq
  | .ok (.ret u), hq => exact hq
end
end Mi
set_option Elab.async false
set_option linter.all false
set_option maxRecDepth 100000
set_option maxHeartbeats 4000000
/-! Mi5: calls by keywords, dict displays, match, a def's rule. -/
namespace Mi
open PySem PySem.Spec L2
open PyProof.Rows hiding St

/-! ### calls by keywords alone -/
section
variable {cm : Str → Option Value} {W : WX} {X : Cx} {pos : Pos}
def DK (cm : Str → Option Value) (W : WX) (X : Cx) (ks : List Keyword) (f : AF) : Prop := PK X ks (LiftA cm X.K W f)
theorem pkI {e : List Keyword} {t t' : TA} (h : PK X e t) (i : ∀ s H Q, t' s H Q → t s H Q) : PK X e t' := ⟨fun pos pins s σ H Q I q => h.run pos pins s σ H Q I (i _ _ _ q)⟩
theorem dk_nil : DK cm W X [] aNil := pkI pk_nil fun s H Q h => by
  obtain ⟨m, p, st, re, rs, h⟩ := h
  exact h m H [] Ext.refl rs RVs.nil
theorem dk_cons {nm : Option Str} {e : Expr} {kpos : Pos} {kws : List Keyword} {fa : EF} {fs : AF} (ha : DE cm W X e fa) (hr : DK cm W X kws fs) : DK cm W X (⟨nm, e, kpos⟩ :: kws) (aCons fa fs) := pkI (pk_cons ha hr) fun s H Q h => by
  obtain ⟨m, p, st, re, rs, h⟩ := h
  refine ⟨m, p, st, re, rs, Post.split h fun d1 st1 m1 H1 v1 e1 x1 rs1 r1 h1 => ?_⟩
  refine ⟨m1, p, st1, re.ext rs x1, rs1, Post.split h1 fun d2 st2 m2 H2 v2 e2 x2 rs2 r2 h2 => ?_⟩
  exact h2 m2 H2 _ Ext.refl rs2 (RVs.cons (RV.ext rs1 x2 _ r1) r2)
/-- two turned about, or as they are -/
def turn2 {α : Type} : List α → List α
  | [a, b] => [b, a]
  | l => l
/-- how keywords are put into the parameters' order -/
structure Perm1 (g : {α : Type} → List α → List α) : Prop where
  rel : ∀ {K : PySem.W.Frag} {m : List Addr} {H : Hp} {ds : List D} {vs : List V}, RVs K m H ds vs → RVs K m H (g ds) (g vs)
  vals : ∀ {vs : List V} {us : List Value}, Vals vs us → Vals (g vs) (g us)
  len : ∀ {α : Type} (l : List α), (g l).length = l.length
theorem perm_id : Perm1 (fun {α} (l : List α) => l) := ⟨fun h => h, fun h => h, fun _ => rfl⟩
theorem perm_two : Perm1 (fun {α} (l : List α) => turn2 l) := by
  refine ⟨fun {K m H ds vs} h => ?_, fun {vs us} h => ?_, fun {α} l => ?_⟩
  · cases ds with
    | nil => simp only [RVs] at h; subst h; exact RVs.nil
    | cons a ds =>
      cases ds with
      | nil => simp only [RVs] at h; obtain ⟨v, _, rfl, r, rfl⟩ := h; exact RVs.one r
      | cons b ds =>
        cases ds with
        | nil => simp only [RVs] at h; obtain ⟨v, _, rfl, r, v2, _, rfl, r2, rfl⟩ := h; exact RVs.cons r2 (RVs.one r)
        | cons c ds => simp only [RVs] at h; obtain ⟨v, _, rfl, r, v2, _, rfl, r2, v3, _, rfl, r3, h⟩ := h; exact RVs.cons r (RVs.cons r2 (RVs.cons r3 h))
  · cases h with
    | nil => exact .nil
    | cons r h =>
      cases h with
      | nil => exact .cons r .nil
      | cons r2 h =>
        cases h with
        | nil => exact .cons r2 (.cons r .nil)
        | cons r3 h => exact .cons r (.cons r2 (.cons r3 h))
  · match l with
    | [] => rfl
    | [_] => rfl
    | [_, _] => rfl
    | _ :: _ :: _ :: _ => rfl
/-- the keywords ks bind as g says -/
def KB0 (fd : FuncData) (ps ks : List Str) (g : {α : Type} → List α → List α) : Prop := ∀ (s : Shared) (ws : List Value), ws.length = ps.length → BindsTo s fd ⟨[], ks.zip ws⟩ (ps.zip (g ws))
theorem kb0_of {K : PySem.W.Frag} {x qual : Str} {st : Stmt} {f : Addr} {fd : FuncData} {ps ks : List Str} {g : {α : Type} → List α → List α} (F : Fun K x qual st f fd)
    (h : ∀ (kV doc pm : Value) (an : Option Addr) (cdv ct : Value) (ws : List Value), ws.length = ps.length → bindArgs (PySem.W.fnOf x qual (defArgs st) (defBody st) (defScope st) .none kV doc pm an cdv ct) ⟨[], ks.zip ws⟩ = pure (ps.zip (g ws))) : KB0 fd ps ks g := by
  obtain ⟨oc, od, kV, doc, pm, an, cdv, ct, osl, rfl, lk, hcd⟩ := F.ex
  exact fun s ws hl => .of_eq (h kV doc pm an cdv ct ws hl)
def eCallK (F : FnF) (g : {α : Type} → List α → List α) (a : AF) : EF := fun p st => bindR (a p st) fun xs st1 => F (g xs) st1
theorem de_callK {k : Nat} {x : Str} {ps ks : List Str} {f : Addr} {fd : FuncData} {F : FnF} {kws : List Keyword} {fs : AF} {pf : Pos} {g : {α : Type} → List α → List α} (G : FnD cm X.prog X.w X.K X.mg X.base k x ps f fd F) (pg : Perm1 g) (hb : KB0 fd ps ks g) (tk : Takes X W) (hgd : X.A.guards = some []) (hr : Room k X.A) (hl : ALen fs ps.length)
    (ha : DK cm W X kws fs) (hg : Gl X x := by rfl) (hall : (backToKw pos (keywordEach kws X.env)).all (·.1.isSome) = true := by rfl) (hks : (backToKw pos (keywordEach kws X.env)).filterMap (·.1) = ks := by rfl) (hdb : (x == ("__debug__" : Str)) = false := by decide)
    (hplain : ((backTo pos (starEach [] X.env)).any (·.1) || (backToKw pos (keywordEach kws X.env)).any (·.1.isNone)) = false := by rfl) : DE cm W X (.Call (.Name x pf) [] kws pos) (eCallK F g fs) := by
  refine ⟨fun pins s σ H Q I h => ?_⟩
  obtain ⟨m, p, st, re, rs, h⟩ := h
  refine wpAny_Call_Name_kw (ld_glob I hg G.at_ ?_ hdb)
  refine PySem.W.callWith_KW0 (h₀ := X.base) I.ok.mod.kin G.kp hall ?_ hplain
  refine thn (ha.run pos pins s σ H (fun vs H1 => vs.length = ps.length ∧ ∃ m st ds, RSt X.K m H1 st ∧ RVs X.K m H1 ds vs ∧ Post cm X.K (RV X.K) (fun c d H' => W c d σ H') m H1 (F (g ds) st) Q) I ⟨m, p, st, re, rs, Post.split h fun ds st1 m1 H1 vs e1 x1 rs1 r1 h1 => ⟨by rw [← r1.len]; exact hl _ _ _ _ e1, m1, st1, ds, rs1, r1, h1⟩⟩) fun ws s1 ⟨vs, H1, I1, r, hn, m1, st1, ds, rs1, r1, q⟩ => ⟨I1.kIn, ?_⟩
  rw [hks]
  have hwl : ws.length = ps.length := by rw [← r.length]; exact hn
  refine wpAny_call (codeAny_mono (run_G (args := ⟨[], ks.zip ws⟩) G.ok tk hgd hr (hb s1 ws hwl) I1 (pg.vals r) ⟨by rw [pg.len]; exact hn, m1, st1, g ds, rs1, pg.rel r1, q⟩) fun r s' hq => ?_)
  match r, hq with
  | .error e, hq => exact hq
  | .ok (.ret u), hq => exact hq
end

/-! ### dict displays -/
abbrev KF := Rho → Store → R (List (Key × D))
def kNil : KF := fun _ st => .ok [] st
def kCons (k : Key) (a : EF) (r : KF) : KF := fun p st => bindR (a p st) fun d st1 => bindR (r p st1) fun kvs st2 => .ok ((k, d) :: kvs) st2
def kvMerge (kvs : List (Key × D)) : List (Key × D) := kvs.foldl (fun acc kv => kvPut acc kv.1 kv.2) []
def mkDic (kvs : List (Key × D)) (st : Store) : Option (D × Store) := if kvs.length ≤ 15 then alloc (.dic (kvMerge kvs)) st else none
def eDic (f : KF) : EF := fun p st => bindR (f p st) fun kvs st1 => optR (mkDic kvs st1)
section
variable {cm : Str → Option Value} {W : WX} {X : Cx} {pos : Pos}
theorem de_dic0 : DE cm W X (.Dict [] [] pos) (eDic kNil) := peI pe_dnewK fun s H Q h => by
  obtain ⟨m, p, st, re, rs, h⟩ := h
  intro q hq
  exact postO_alloc (o := .dic []) rs (PostO.of h) hq ⟨[], upd_same, RKs.nil⟩
/-- the pairs of a display -/
def DPs (cm : Str → Option Value) (W : WX) (X : Cx) (pos : Pos) (keys : List (Option Expr)) (values : List Expr) (f : KF) : Prop :=
  ∃ trs, PPs X pos keys values trs ∧ ∀ {s H} {Q : List (Key × V) → Hp → Prop} {P : List (V × V) → Hp → Prop}, (∀ ws H2, Q ws H2 → P (ws.map fun kv => (kV kv.1, kv.2)) H2) → LiftG cm X.K (RKs X.K) W f s H Q → tPairs trs s H P
theorem dps_nil : DPs cm W X pos [] [] kNil := ⟨[], pps_nil, fun {s H Q P} i h => by
  obtain ⟨m, p, st, re, rs, h⟩ := h
  exact i [] H (h m H [] Ext.refl rs RKs.nil)⟩
theorem dps_str {k : Str} {e : Expr} {ks : List (Option Expr)} {vs : List Expr} {fa : EF} {r : KF} {j : Nat} {kp : Pos} (he : DE cm W X e fa) (hr : DPs cm W X pos ks vs r) : DPs cm W X pos (some (.Constant (.str k) j kp) :: ks) (e :: vs) (kCons (Sum.inr k) fa r) := by
  obtain ⟨trs, h1, h2⟩ := hr
  refine ⟨_, pps_cons pe_str he h1, fun {s H Q P} i h => ?_⟩
  obtain ⟨m, p, st, re, rs, h⟩ := h
  show LiftE cm X.K W fa s H fun y H2 => tPairs trs s H2 fun ps H3 => P ((V.str k, y) :: ps) H3
  refine ⟨m, p, st, re, rs, Post.split h fun d1 st1 m1 H1 v1 e1 x1 rs1 r1 q1 => ?_⟩
  refine h2 (s := s) (H := H1) (Q := fun ws H3 => Q ((Sum.inr k, v1) :: ws) H3) (fun ws H3 q => i _ _ q) ⟨m1, p, st1, re.ext rs x1, rs1, Post.split q1 fun d2 st2 m2 H2 v2 e2 x2 rs2 r2 q3 => q3 m2 H2 _ Ext.refl rs2 (RKs.cons (RV.ext rs1 x2 _ r1) r2)⟩
theorem RKs.merge {K : PySem.W.Frag} {m : List Addr} {H : Hp} {kvs : List (Key × D)} {ws : List (Key × V)} (h : RKs K m H kvs ws) : RKs K m H (kvMerge kvs) (mergeK [] ws) := by
  have : ∀ (kvs : List (Key × D)) (ws : List (Key × V)) (ac : List (Key × D)) (aw : List (Key × V)), RKs K m H kvs ws → RKs K m H ac aw → RKs K m H (kvs.foldl (fun acc kv => kvPut acc kv.1 kv.2) ac) (mergeK aw ws) := by
    intro kvs
    induction kvs with
    | nil => intro ws ac aw h h'; rw [h.nil_inv]; exact h'
    | cons q kvs ih =>
      intro ws ac aw h h'
      obtain ⟨k, d⟩ := q
      obtain ⟨v, wr, rfl, r, h⟩ := h.inv
      exact ih wr _ _ h (h'.put k r)
  exact this kvs ws [] [] h RKs.nil
theorem de_dic {keys : List (Option Expr)} {values : List Expr} {f : KF} (h : DPs cm W X pos keys values f) (hall : keys.all (·.isSome) = true := by rfl) (hl : keys.length = values.length := by rfl) (h0 : keys ≠ [] := by intro z; cases z) (h15 : keys.length ≤ 15 := by decide) : DE cm W X (.Dict keys values pos) (eDic f) := by
  obtain ⟨trs, h1, h2⟩ := h
  refine peI (pe_disp h1 hall hl h0 h15) fun s H Q h => ?_
  obtain ⟨m, p, st, re, rs, h⟩ := h
  intro q hq
  have xq : Ext m H m (upd H q (.dK [])) := ext_fresh hq
  have rsq := rs.beside hq (o := .dK [])
  have nq := rs.fresh hq
  refine h2 (Q := fun ws H2 => H2 q = some (.dK []) ∧ ws.length ≤ 15 ∧ Q (.ref q) (upd H2 q (.dK (mergeK [] ws)))) (fun ws H2 z => ⟨z.1, ws, rfl, z.2⟩) ⟨m, p, st, re.ext rs xq, rsq, ?_⟩
  have hp := Post.at h xq rsq
  have hp0 := h
  cases e : f p st with
  | bad => simp only [eDic, e] at h; exact h.elim
  | exc x st1 => simp only [eDic, e, bindR] at hp; exact hp
  | ok kvs st1 =>
    simp only [eDic, e, bindR] at hp0
    intro m' H' ws x rs' r
    have hq' := x.keep q _ upd_same nq
    have nq' := x.notin upd_same nq
    have z := PostO.of hp0
    unfold mkDic at z
    split at z
    · rename_i hz
      refine ⟨hq', by rw [← r.length]; exact hz, ?_⟩
      have x2 : Ext m H m' H' := xq.trans rsq x
      have tf : ∀ u, H' q = some u → ¬ TF u := fun u e => by rw [hq'] at e; cases e; exact tf_no_dK
      exact z _ _ _ (x2.adopt hq) (rs'.adopt nq' tf ⟨_, upd_same, (r.merge).ext0 (ext0_touch tf)⟩) (by simp only [RV]; exact ⟨q, rfl, by rw [← rs'.len, List.getElem?_concat_length]⟩)
    · exact z.elim
end

/-! ### match -/
abbrev PtF := D → Store → Option (Option (List D))
/-- a pattern: what it binds, by names -/
def DPt (X : Cx) (pt : Pattern) (ns : List Str) (f : PtF) : Prop :=
  ∀ (pins : List (Addr × Obj)) (s : Shared) (σ : L2.St) (H : Hp) (v : V) (u : Value) (m : List Addr) (st : Store) (d : D) (o : Option (List D)), Inv X pins σ H s → RelV v u → RSt X.K m H st → RV X.K m H d v → f d st = some o →
    wpAny (model X.prog X.w) X.A (matchPattern pt X.env u) (fun r s' => ∃ m' H', Inv X pins σ H' s' ∧ Ext m H m' H' ∧ RSt X.K m' H' st ∧ match o with
      | none => r = none
      | some ds => ∃ us vs, r = some (ns.zip us) ∧ ns.length = us.length ∧ Vals vs us ∧ RVs X.K m' H' ds vs) X.xe s
/-- patterns, side by side -/
def DPts (X : Cx) (pts : List Pattern) (ns : List Str) (f : List D → Store → Option (Option (List D))) : Prop :=
  ∀ (pins : List (Addr × Obj)) (s : Shared) (σ : L2.St) (H : Hp) (vs : List V) (us : List Value) (m : List Addr) (st : Store) (ds : List D) (o : Option (List D)), Inv X pins σ H s → Vals vs us → RSt X.K m H st → RVs X.K m H ds vs → ds.length = pts.length → f ds st = some o →
    wpAny (model X.prog X.w) X.A (matchEach pts X.env us) (fun r s' => ∃ m' H', Inv X pins σ H' s' ∧ Ext m H m' H' ∧ RSt X.K m' H' st ∧ match o with
      | none => r = none
      | some ds => ∃ us vs, r = some (ns.zip us) ∧ ns.length = us.length ∧ Vals vs us ∧ RVs X.K m' H' ds vs) X.xe s
def ptCap : PtF := fun d _ => some (some [d])
def ptVal (eq : D → D → Store → Option Bool) (c : D) : PtF := fun d st => match eq d c st with
  | some true => some (some [])
  | some false => some none
  | none => none
def ptsNil : List D → Store → Option (Option (List D)) := fun _ _ => some (some [])
def ptsCons (f : PtF) (g : List D → Store → Option (Option (List D))) : List D → Store → Option (Option (List D)) := fun ds st => match ds with
  | d :: ds => match f d st with
    | none => none
    | some none => some none
    | some (some a) => match g ds st with
      | none => none
      | some none => some none
      | some (some b) => some (some (a ++ b))
  | [] => none
def ptSeq (n : Nat) (g : List D → Store → Option (Option (List D))) : PtF := fun d st => match d with
  | .tup ds => if ds.length = n then g ds st else some none
  | _ => none
section
variable {cm : Str → Option Value} {W : WX} {X : Cx} {pos : Pos}
theorem dpt_cap {n : Str} : DPt X (.MatchAs none (some n) pos) [n] ptCap := by
  intro pins s σ H v u m st d o I r rs rv e
  cases e
  exact wpAny_matchPattern_Capture ⟨m, H, I, Ext.refl, rs, [u], [v], rfl, rfl, .cons r .nil, RVs.one rv⟩
def opB (eq : D → D → Store → Option Bool) : D → D → Store → Option (D × Store) := fun x y st => (eq x y st).map fun b => (.bl b, st)
theorem dpt_val {x : Str} {j : Nat} {p2 : Pos} {eq : D → D → Store → Option Bool} (he : OpS X (compareOp .Eq) (opB eq)) : DPt X (.MatchValue (.Constant (.str x) j p2) pos) [] (ptVal eq (.str x)) := by
  intro pins s σ H v u m st d o I r rs rv e
  refine wpAny_matchPattern_Value (thn ((pe_str (X := X)).run pins s σ H (fun y H' => y = .str x ∧ H = H') I ⟨rfl, rfl⟩) fun w s1 ⟨y, H1, I1, r1, ey, eH⟩ => ?_)
  subst ey; subst eH
  unfold ptVal at e
  cases q : eq d (.str x) st with
  | none => rw [q] at e; cases e
  | some b =>
    rw [q] at e
    refine thn (he pins s1 σ H v (.str x) u w (fun z H' => z = .bl b ∧ ∃ m', Ext m H m' H' ∧ RSt X.K m' H' st) I1 r r1 ⟨m, st, d, .str x, rs, rv, by simp [RV], ?_⟩) fun c s2 ⟨z, H2, I2, r2, ez, m2, x2, rs2⟩ => ?_
    · simp only [opB, q, Option.map_some]
      intro m' H' v' x' rs' r'
      exact ⟨by simpa [RV] using r', m', x', rs'⟩
    · subst ez
      cases r2
      refine PySem.wpAny_truthy_bool ?_
      cases b with
      | true => cases e; exact ⟨m2, H2, I2, x2, rs2, [], [], rfl, rfl, .nil, RVs.nil⟩
      | false => cases e; exact ⟨m2, H2, I2, x2, rs2, rfl⟩
theorem dpts_nil : DPts X [] [] ptsNil := by
  intro pins s σ H vs us m st ds o I r rs rv hl e
  cases e
  exact wpAny_matchEach_nil ⟨m, H, I, Ext.refl, rs, [], [], rfl, rfl, .nil, RVs.nil⟩
theorem dpts_cons {p : Pattern} {ps : List Pattern} {ns ns' : List Str} {f : PtF} {g : List D → Store → Option (Option (List D))} (h1 : DPt X p ns f) (h2 : DPts X ps ns' g) (hp : p.isStar = false := by rfl) : DPts X (p :: ps) (ns ++ ns') (ptsCons f g) := by
  intro pins s σ H vs us m st ds o I r rs rv hl e
  cases ds with
  | nil => cases e
  | cons d ds =>
    simp only [RVs] at rv
    obtain ⟨v, vr, rfl, rv1, rv2⟩ := rv
    cases r with
    | cons r1 r2 =>
      refine wpAny_matchEach_cons ?_ hp
      simp only [ptsCons] at e
      cases q : f d st with
      | none => rw [q] at e; cases e
      | some o1 =>
        rw [q] at e
        refine thn (h1 pins s σ H v _ m st d o1 I r1 rs rv1 q) fun b s1 ⟨m1, H1, I1, x1, rs1, z⟩ => ?_
        cases o1 with
        | none =>
          cases e
          subst z
          exact ⟨m1, H1, I1, x1, rs1, rfl⟩
        | some a =>
          obtain ⟨us1, vs1, rfl, hl1, r3, rv3⟩ := z
          dsimp only at e ⊢
          cases q2 : g ds st with
          | none => rw [q2] at e; cases e
          | some o2 =>
            rw [q2] at e
            refine thn (h2 pins s1 σ H1 vr _ m1 st ds o2 I1 r2 rs1 (RVs.ext rs x1 _ rv2) (by simpa using hl) q2) fun b s2 ⟨m2, H2, I2, x2, rs2, z⟩ => ?_
            cases o2 with
            | none =>
              cases e
              subst z
              exact ⟨m2, H2, I2, x1.trans rs1 x2, rs2, rfl⟩
            | some a2 =>
              cases e
              obtain ⟨us2, vs2, rfl, hl2, r4, rv4⟩ := z
              refine ⟨m2, H2, I2, x1.trans rs1 x2, rs2, us1 ++ us2, vs1 ++ vs2, ?_, by simp [hl1, hl2], r3.append r4, RVs.append (RVs.ext rs1 x2 _ rv3) rv4⟩
              show some (ns.zip us1 ++ ns'.zip us2) = some ((ns ++ ns').zip (us1 ++ us2))
              rw [List.zip_append hl1]
theorem dpt_seq {pts : List Pattern} {ns : List Str} {g : List D → Store → Option (Option (List D))} {n : Nat} (hc : X.calm = true) (h : DPts X pts ns g) (hn : pts.length = n := by rfl) (hstar : pts.findIdx? (·.isStar) = none := by rfl)
    (hwild : (pts.all fun p => p.isWildcard || (p.isStar && p.names.isEmpty)) = false := by rfl) : DPt X (.MatchSequence pts pos) ns (ptSeq n g) := by
  intro pins s σ H v u m st d o I r rs rv e
  cases d with
  | tup ds =>
    simp only [RV] at rv
    obtain ⟨a, vs, rfl, ha, rv⟩ := rv
    cases r
    obtain ⟨its, rl, pl, hz⟩ := I.tuple ha
    have hsz : (its.toArray.size : Int) < 2 ^ 63 := by
      have h1 := line63
      have h2 := rl.length
      rw [List.size_toArray]; omega
    have hlen : its.length = ds.length := by rw [← rl.length, rv.len]
    simp only [ptSeq] at e
    by_cases hk : ds.length = n
    · rw [if_pos hk] at e
      have I1 : Inv X pins σ H { s with toks := s.toks + 1 + 1 } := I.tok _
      refine PyProof.Rows.matchSeq_tuple_hit pl hsz (by rw [List.size_toArray, hlen, hk, hn]) ?_ hstar hwild
      rw [show pts.length = its.toArray.size by rw [List.size_toArray, hlen, hk, hn]]
      refine unpackItems_tuple (items := its.toArray) (I1.ok.hd hc) (by exact pl) (fun h' hx => ?_)
      have I2 : Inv X pins σ H { s with heap := h', toks := s.toks + 1 + 1 } := I.kept (t' := s.toks + 1 + 1) fun b o e => hx b o (Nat.ne_of_lt (Heap.lt_size e)) e
      exact h pins _ σ H vs its m st ds o I2 rl rs rv (by rw [hk, hn]) e
    · rw [if_neg hk] at e
      cases e
      exact PyProof.Rows.matchSeq_tuple_miss pl hsz (by rw [List.size_toArray, hlen, hn]; exact hk) ⟨m, H, I.tok _, Ext.refl, rs, rfl⟩ hstar hwild
  | _ => cases e
/-- the cases of a match -/
def DCs (cm : Str → Option Value) (W : WX) (X : Cx) (cs : List MatchCase) (c : D → SF) : Prop :=
  ∀ (pins : List (Addr × Obj)) (s : Shared) (σ : L2.St) (H : Hp) (v : V) (u : Value) (first : Bool) (m : List Addr) (p : Rho) (st : Store) (d : D) (D0 : Ends), Inv X pins σ H s → RelV v u → RSt X.K m H st → RV X.K m H d v → RE X.K m H p σ → PostS cm X.K W m H (c d p st) D0 →
    wpAny (model X.prog X.w) X.A (matchCases cs X.env u first) (SP X pins D0) X.xe s
end
def setAll (p : Rho) : List Nat → List D → Rho
  | i :: ix, d :: ds => setAll (p.set i (some d)) ix ds
  | _, _ => p
def mcNil : D → SF := fun _ => sNil
def mcCons (f : PtF) (ix : List Nat) (b : SF) (r : D → SF) : D → SF := fun d p st => match f d st with
  | none => .bad
  | some none => r d p st
  | some (some ds) => b (setAll p ix ds) st
def sMatch (a : EF) (c : D → SF) : SF := fun p st => bindS p (a p st) fun d st1 => c d p st1
inductive BN (X : Cx) : List Str → List Nat → Prop where
  | nil : BN X [] []
  | cons {n : Str} {i : Nat} {ns : List Str} {ix : List Nat} (hi : X.N[i]? = some n) (hx : Loc X.env.scope n) (hf : X.fn n = true ∨ X.env.scope.names.lookup n = some .local) (h : BN X ns ix) : BN X (n :: ns) (i :: ix)
section
variable {cm : Str → Option Value} {W : WX} {X : Cx} {pos : Pos}
theorem bn_cons {n : Str} (i : Nat) {ns : List Str} {ix : List Nat} (h : BN X ns ix) (hi : X.N[i]? = some n := by rfl) (hx : Loc X.env.scope n := by first | exact Or.inl rfl | exact Or.inr rfl) (hf : X.fn n = true ∨ X.env.scope.names.lookup n = some .local := by first | exact .inl rfl | exact .inr rfl) : BN X (n :: ns) (i :: ix) := .cons hi hx hf h
theorem bind_all (hN : X.N.Nodup) {pins : List (Addr × Obj)} {H : Hp} {m : List Addr} : ∀ {ns : List Str} {ix : List Nat} {us : List Value} {vs : List V} {ds : List D} {p : Rho} {σ : L2.St} {s : Shared}, BN X ns ix → ns.length = us.length → Vals vs us → RVs X.K m H ds vs → Inv X pins σ H s → RE X.K m H p σ →
    wpAny (model X.prog X.w) X.A (assignInOrder ((ns.zip us).map fun (n, _) => bindName X.env n) ((ns.zip us).map (·.2))) (fun _ s' => ∃ σ', Inv X pins σ' H s' ∧ RE X.K m H (setAll p ix ds) σ') X.xe s
  | _, _, us, vs, ds, p, σ, s, .nil, hl, r, rv, I, re => by
    cases us with
    | nil =>
      refine assignInOrder_nil ⟨σ, I, ?_⟩
      cases ds <;> exact re
    | cons _ _ => cases hl
  | _, _, us, vs, ds, p, σ, s, .cons (n := n) (i := i) (ns := ns) (ix := ix) hi hx hf h, hl, r, rv, I, re => by
    cases us with
    | nil => cases hl
    | cons u us =>
      cases r with
      | cons r0 r1 =>
        cases ds with
        | nil => simp only [RVs] at rv; cases rv
        | cons d ds =>
          simp only [RVs] at rv
          obtain ⟨v, vr, e, rv0, rv1⟩ := rv
          cases e
          show wpAny _ _ (assignInOrder (bindName X.env n :: (ns.zip us).map fun (n, _) => bindName X.env n) (u :: (ns.zip us).map (·.2))) _ _ _
          refine assignInOrder_cons (wpAny_bindName (store_ok I hN hi hx r0 (fun s' I' => ?_) hf))
          exact bind_all (ix := ix) (p := p.set i (some d)) hN h (by simpa using hl) r1 rv1 I' (re.set (by rw [I.len]; exact (List.getElem?_eq_some_iff.mp hi).1) rv0)
theorem dcs_nil : DCs cm W X [] mcNil := by
  intro pins s σ H v u first m p st d D0 I r rs rv re h
  exact wpAny_matchCases_nil ⟨σ, H, I, h m H σ Ext.refl rs re⟩
theorem dcs_cons {pt : Pattern} {body : List Stmt} {rest : List MatchCase} {ns : List Str} {ix : List Nat} {f : PtF} {fb : SF} {fr : D → SF} (hN : X.N.Nodup) (hp : DPt X pt ns f) (hn : BN X ns ix) (hb : DSs cm W X body fb) (hr : DCs cm W X rest fr) : DCs cm W X (⟨pt, none, body⟩ :: rest) (mcCons f ix fb fr) := by
  intro pins s σ H v u first m p st d D0 I r rs rv re h
  unfold mcCons at h
  cases q : f d st with
  | none => rw [q] at h; exact h.elim
  | some o =>
    rw [q] at h
    refine wpAny_matchCases_cons (thn (hp pins s σ H v u m st d o I r rs rv q) fun b s1 ⟨m1, H1, I1, x1, rs1, z⟩ => ?_)
    cases o with
    | none =>
      subst z
      exact hr pins s1 σ H1 v u false m1 p st d D0 I1 r rs1 (RV.ext rs x1 _ rv) (re.ext rs x1) (PostS.at h x1 rs1)
    | some ds =>
      obtain ⟨us, vs, rfl, hl, r2, rv2⟩ := z
      refine thn (bind_all hN hn hl r2 rv2 I1 (re.ext rs x1)) fun _ s2 ⟨σ2, I2, re2⟩ => ?_
      exact hb.run pins s2 σ2 H1 D0 I2 ⟨m1, setAll p ix ds, st, re2, rs1, PostS.at h x1 rs1⟩
theorem ds_match {e : Expr} {cs : List MatchCase} {fa : EF} {c : D → SF} (he : DE cm W X e fa) (hc : DCs cm W X cs c) : DS cm W X (.Match e cs pos) (sMatch fa c) := by
  refine ⟨fun pins s σ H D0 I h => ?_⟩
  obtain ⟨m, p, st, re, rs, h⟩ := h
  refine wpAny_Match (thn (he.run pins s σ H (fun v H1 => ∃ m1 st1 d, RSt X.K m1 H1 st1 ∧ RV X.K m1 H1 d v ∧ RE X.K m1 H1 p σ ∧ PostS cm X.K W m1 H1 (c d p st1) D0) I ⟨m, p, st, re, rs, PostS.split re rs h fun d st1 m1 H1 v e1 x1 rs1 r1 h1 => ⟨m1, st1, d, rs1, r1, re.ext rs x1, h1⟩⟩) fun u s1 ⟨v, H1, I1, r1, m1, st1, d, rs1, rv, re1, q⟩ => ?_)
  exact hc pins s1 σ H1 v u true m1 p st1 d D0 I1 r1 rs1 rv re1 q
end

/-! ### defs: the rule, the law -/
def runD (n : Nat) (body : SF) : FnF := fun ds st => match body (ds.map some ++ List.replicate (n - ds.length) none) st with
  | .rt d st' => .ok d st'
  | .nx _ st' => .ok .non st'
  | .xc e _ st' => .exc e st'
  | _ => .bad
/-- where sys.modules stands -/
def HasSys (base : Heap) : Prop := ∃ o es n, base.get? sysModules = some o ∧ o.data = .dict es n
/-- what a body's derivation may lean on -/
structure BX (W : WX) (k : Nat) (X : Cx) : Prop where
  tk : Takes X W
  po : PassesOwn (model X.prog X.w) X.A X.env X.xe
  calm : X.calm = true
  nd : X.N.Nodup
  hr : Room k X.A
  gd : X.A.guards = some []
  sys : HasSys X.base
theorem BX.hu {W : WX} {k : Nat} {X : Cx} (b : BX W k X) : X.A.units + 1 < cLine := hu_of b.hr
theorem BX.h160 {W : WX} {k : Nat} {X : Cx} (b : BX W k X) : X.A.units + 160 < cLine := by have := b.hr.un; omega
theorem BX.h64 {W : WX} {k : Nat} {X : Cx} (b : BX W k X) : X.A.units + 64 < cLine := b.hr.units
section
variable {cm : Str → Option Value} {P : Program} {w : World} {K : PySem.W.Frag} {mg : Str → Option Value} {base : Heap}
theorem re_start {m : List Addr} {H : Hp} {N : List Str} {ds : List D} {vs : List V} (r : RVs K m H ds vs) : RE K m H (ds.map some ++ List.replicate (N.length - ds.length) none) (L2.start N vs) := fun i d e => by
  by_cases hi : i < ds.length
  · rw [List.getElem?_append_left (by simpa using hi), List.getElem?_map] at e
    obtain ⟨d', e1, e2⟩ := Option.map_eq_some_iff.mp e
    cases e2
    obtain ⟨v, e3, e4⟩ := r.get e1
    refine ⟨v, ?_, e4⟩
    unfold L2.start
    rw [List.getElem?_append_left (by simp only [List.length_map]; rw [← r.len]; exact hi), List.getElem?_map, e3]
    rfl
  · exfalso
    rw [List.getElem?_append_right (by simpa using hi)] at e
    have := List.mem_of_getElem? e
    rw [List.mem_replicate] at this
    cases this.2
/-- a def of the text by its body's derivation -/
theorem fnD_of {x qual : Str} {st : Stmt} {f : Addr} {fd : FuncData} {N ps : List Str} {k : Nat} {body : SF} (F : Fun K x qual st f fd) (S : FnScope N ps (defScope st)) (hm : mg x = some (.ref f)) (bd : Binds K fd ps []) (hs : HasSys base)
    (hbody : ∀ (cdv : Value) (A : Around) (outer : List Env) (s : Shared) (H : Hp) (E : XK), BX (fun c d _ H' => E c d H') k (cxOf (L2.CX P w) P w K mg base N qual (defScope st) f cdv A outer s H E) →
      DSs cm (fun c d _ H' => E c d H') (cxOf (L2.CX P w) P w K mg base N qual (defScope st) f cdv A outer s H E) (defBody st) body) : FnD cm P w K mg base (k + 1) x ps f fd (runD N.length body) := by
  obtain ⟨oc, od, kV, doc, pm, an, cdv, ct, osl, hfd, lk, hcd⟩ := F.ex
  refine ⟨⟨fun vs H Q E h => h.1, fun A outer s H args us vs Q E hg hr e0 hb r h => ?_⟩, hm, F.kp, bd⟩
  subst hfd
  have inS : ∀ b o, base.get? b = some o → s.heap.get? b = some o := fun b o e => (e0.bs b o e).1
  have KX := e0.mod.kin.keeps inS
  have places : ∀ q ∈ ps.zip us, (defScope st).names.lookup q.1 = some .local ∨ ((defScope st).names.lookup q.1 = some .cell ∧ ((cellsFrom (s.heap.objs.size + 1) (defScope st).names []).lookup q.1).isSome = true) := by
    rintro ⟨y, _⟩ hq
    rcases S.par y (List.of_mem_zip hq).1 with z | z
    · exact .inl z
    · exact .inr ⟨z, PySem.W.cellsFrom_some _ _ _ (.inl z)⟩
  refine codeAny_call_function hr.depth (KX _ _ lk) rfl S.co S.gen rfl (PySem.W.codeRec_of KX hcd) (hb _ _ _ _ (wpAny_newFunctionEnv_cells S.kind places fun env he s1 x => ?_))
  subst he
  refine ⟨(e0.mod.nolimit.keeps inS).keeps x.toInCall.keep, codeAny_func ?_⟩
  obtain ⟨hn, m, st0, ds, rs, rv, h⟩ := h
  have hD := hbody cdv A outer s H E ⟨takes_of rfl rfl rfl rfl, passes_of rfl, rfl, S.nd, hr.deeper _, hg, hs⟩
  have I := inv_start (CX := L2.CX P w) (N := N) (qual := qual) (scope := defScope st) (f := f) (cd := cdv) (E := E) S hr.hd e0 hn r x
  refine wpAny_mono (hD.run [] s1 (L2.start N vs) H { nx := fun _ H' => Q .non H', rt := Q } I ⟨m, _, st0, re_start rv, rs, ?_⟩) (fun fl s' hs => ?_) fun e s' hs => hs
  · unfold runD at h
    cases q : body (ds.map some ++ List.replicate (N.length - ds.length) none) st0 with
    | rt d st1 => rw [q] at h; exact h
    | nx p st1 => rw [q] at h; exact fun m' H' s' e rs' re' => h m' H' .non e rs' (by simp [RV])
    | xc e p st1 => rw [q] at h; exact fun m' H' s' c dd e' rs' re' rx => h m' H' c dd e' rs' rx
    | bk p st1 => rw [q] at h; exact h.elim
    | ct p st1 => rw [q] at h; exact h.elim
    | bad => rw [q] at h; exact h.elim
  · match fl, hs with
    | .ret u, ⟨v, σ', H', J, rv, q⟩ => exact ⟨v, H', J.os, J.bare, J.base, J.hok, rv, q⟩
    | .next, ⟨σ', H', J, q⟩ => exact ⟨.non, H', J.os, J.bare, J.base, J.hok, rfl, q⟩
    | .brk, ⟨_, _, _, q⟩ => exact q.elim
    | .cont, ⟨_, _, _, q⟩ => exact q.elim
/-- the law's promise from what its mirror is worth -/
theorem law_sp {F : FnF} (hF : ∀ ns : List Int, ns.length ≤ 63 → ∃ st, F [.scr ns] [] = .ok (.bl true) st) (H : Hp) (a : Addr) (ns : List Int) (hl : ns.length ≤ 63) (ho : Only H) (hq : SqL K H a (ns.map V.int)) : spD cm K 1 F [.ref a] H (fun v _ => v = .bl true) fun _ _ _ => False := by
  have fz : FzL K H a (ns.map V.int) := by
    rcases hq with (h | ⟨o, h⟩) | h
    · rcases ho a with e | ⟨o, xs, e⟩ <;> (rw [h] at e; cases e)
    · exact .inl ⟨o, h⟩
    · exact .inr h
  obtain ⟨st, e⟩ := hF ns hl
  refine ⟨rfl, [], [], [.scr ns], ⟨rfl, List.nodup_nil, fun l a o h => by simp at h⟩, RVs.one (by simp only [RV]; exact ⟨a, rfl, fz⟩), ?_⟩
  rw [e]
  exact fun m' H' v _ _ r => by simpa [RV] using r
/-- THE LAW from its def's promise, at the heap behind the top -/
theorem law_runG {mb : Str → Option Value} {k : Nat} {fa a : Addr} {fd : FuncData} {x : Str} {F : FnF} {s1 : Shared} {vs : List Value} {ns : List Int} (KX : K.In s1.heap) (hns : s1.heap.Ns mainGlobals mg) (hb : s1.heap.Ns builtinsNs mb) (hbb : ∀ x : Str, x ≠ "__name__" → mb x = bootBuiltins x)
    (hlim : s1.heap.NoLimit) (hsy : HasSys s1.heap) (hg : s1.gens = #[]) (ha : s1.heap.get? a = some { cls := .type "list", data := .seq vs.toArray }) (hi : PyProof.Rows.IntsAre vs ns) (hl : ns.length ≤ 63) (hr : Room k callerA) (hbind : ∀ (s : Shared) (u : Value), BindsTo s fd ⟨[u], []⟩ [(x, u)])
    (hG : ∀ base : Heap, K.In base → base.Ns mainGlobals mg → HasSys base → FnG P w K mg base k fa fd [x] (spD cm K 1 F)) (hF : ∀ ns : List Int, ns.length ≤ 63 → ∃ st, F [.scr ns] [] = .ok (.bl true) st) :
    codeAny (model P w) callerA (.call (.ref fa) ⟨[.ref a], []⟩) (fun r s' => r = .ok (.ret (.bool true)) ∧ OldK s1.heap s'.heap ∧ s'.os = s1.os ∧ AllBare s'.gens) s1 := by
  let u0 : HO := .frz { cls := .type "list", data := .seq vs.toArray } (.lst (ns.map V.int))
  let H : Hp := fun b => if K.lookup a = none ∧ b = a then some u0 else none
  have rvs : Vals (ns.map V.int) vs := vals_of_ints hi
  have hlen : ns.length ≤ sizeLine := by rw [lim_eq]; exact Nat.le_trans hl (by decide)
  have hH : ∀ b o, H b = some o → K.lookup a = none ∧ b = a ∧ o = u0 := fun b o e => by
    by_cases q : K.lookup a = none ∧ b = a
    · have : H b = some u0 := if_pos q
      rw [this] at e; cases e
      exact ⟨q.1, q.2, rfl⟩
    · have : H b = none := if_neg q
      rw [this] at e; cases e
  have hO : Only H := fun b => by
    cases q : H b with
    | none => exact .inl rfl
    | some o => obtain ⟨_, _, rfl⟩ := hH b o q; exact .inr ⟨_, _, rfl⟩
  have hok : HOk P w H s1.heap := fun b o e => by
    obtain ⟨_, rfl, rfl⟩ := hH b o e
    exact ⟨ha, by rw [List.length_map]; exact hlen, vs, _, rvs, ha⟩
  have hS : SqL K H a (ns.map V.int) := by
    cases hk : K.lookup a with
    | none => exact .inl (.inr ⟨_, if_pos ⟨hk, rfl⟩⟩)
    | some o =>
      have e := KX a o hk
      rw [ha] at e; cases e
      exact .inr ⟨_, vs.toArray, _, hk, rfl, rfl, rfl, by rw [List.size_toArray, ← rvs.length, List.length_map]; exact hlen, by simpa using rvs⟩
  have free : ∀ {b : Addr} {o : Obj}, s1.heap.get? b = some o → (∀ n, o.data ≠ .seq vs.toArray n) → H b = none := fun {b o} e d => by
    cases q : H b with
    | none => rfl
    | some u =>
      obtain ⟨_, rfl, _⟩ := hH b u q
      rw [ha] at e; cases e
      exact absurd rfl (d _)
  have ns' : ∀ {b : Addr} {f : Str → Option Value}, s1.heap.Ns b f → (hidT s1.heap H).Ns b f := fun {b f} ⟨o, es, ep, e, d, r⟩ => ⟨o, es, ep, hidT_get e (free e fun n z => by rw [d] at z; cases z), d, r⟩
  have kb : K.In (hidT s1.heap H) := fun b o e => hidT_get (KX b o e) (by
    cases q : H b with
    | none => rfl
    | some u =>
      obtain ⟨z, rfl, _⟩ := hH b u q
      rw [z] at e; cases e)
  have hM : Mod K mg (hidT s1.heap H) := ⟨kb, ns' hns, ⟨mb, ns' hb, hbb⟩, let ⟨mc, h1, h2⟩ := hlim; ⟨mc, ns' h1, h2⟩⟩
  have e0 : Env0 P w K mg (hidT s1.heap H) callerA [] s1 H := ⟨rfl, hM, fun b o e => of_hidT e, Nat.le_of_eq (hidT_size _ _), trivial, fun b hb => (List.not_mem_nil hb).elim, hok, .of_eq hg⟩
  have hsx : HasSys (hidT s1.heap H) := by
    obtain ⟨o, es, n, e, d⟩ := hsy
    exact ⟨o, es, n, hidT_get e (free e fun n z => by rw [d] at z; cases z), d⟩
  refine codeAny_mono ((hG _ kb (ns' hns) hsx).go callerA [] s1 H ⟨[.ref a], []⟩ [.ref a] [.ref a] _ _ rfl hr e0 (hbind s1 (.ref a)) (.cons rfl .nil) (law_sp hF H a ns hl hO hS)) fun r s' h => ?_
  match r, h with
  | .error e, h =>
    obtain ⟨_, _, _, _, _, _, _, _, _, _, _, _, z⟩ := h
    exact z.elim
  | .ok (.ret u), ⟨v, H', os, bare, un, hok', r', q⟩ =>
    have q : v = .bl true := q
    subst q
    obtain rfl : u = Value.bool true := r'
    refine ⟨rfl, OldK.of_keep fun b o e => ?_, os, bare⟩
    cases q : H b with
    | none => exact un.keep b o e q (fun z => (List.not_mem_nil z).elim) (fun z => (List.not_mem_nil z).elim)
    | some u =>
      obtain ⟨_, _, rfl⟩ := hH b u q
      obtain ⟨e2, _⟩ := hok' b _ (un.frzs b _ _ q)
      obtain ⟨e1, _⟩ := hok b _ q
      rw [e] at e1; cases e1
      exact e2
end
theorem walkG {l : PySem.W.OpenLaw} {k : Nat} {q : Program} {loose : List Str} {XP : (Str → Option Value) → Heap → Prop} {YP : World → Heap → Prop} {d : DefRec} {K : Params → PySem.W.Frag} {x : Str} (hn : l.most = some 63) (hdf : d.params.defaults = []) (hr : Room k callerA) (hq : importsNone q = true)
    (hY : ∀ (w : World) (h : Heap), YP w h → (K w.params).In h)
    (F : ∀ (w : World) (mg : Str → Option Value) (fa : Addr) (h : Heap), (K w.params).In h → h.Ns mainGlobals mg → mg d.name = some (.ref fa) →
      ∃ (cm : Str → Option Value) (fd : FuncData) (Fl : FnF), (∀ (s : Shared) (u : Value), BindsTo s fd ⟨[u], []⟩ [(x, u)]) ∧ (∀ base : Heap, (K w.params).In base → base.Ns mainGlobals mg → HasSys base → FnG l.prog w (K w.params) mg base k fa fd [x] (spD cm (K w.params) 1 Fl)) ∧
        ∀ ns : List Int, ns.length ≤ 63 → ∃ st, Fl [.scr ns] [] = .ok (.bl true) st) :
    PySem.W.WalkO q loose XP YP l.row.toRowW d [] (fun f vs => PySem.call f vs) := by
  refine Att.attach_call hn hdf fun w s0 s1 mg mb fa o pm cd doc a vs ns G Y ho hd hcd hmg hobj hints hlen hg => ?_
  have KX := hY w _ Y
  obtain ⟨cm, fd, Fl, hb, hG, hF⟩ := F w mg fa _ KX G.T.g hmg
  have hsy : HasSys s1.heap := by
    obtain ⟨mm, ⟨o, es, ep, e1, e2, _⟩, _⟩ := (G.T.seer hq).mods
    exact ⟨o, es, ep, e1, e2⟩
  exact law_runG KX G.T.g G.T.b G.T.builtins G.T.nolimit hsy hg hobj hints hlen hr hb hG hF
end Mi
set_option Elab.async false
set_option linter.all false
set_option maxRecDepth 100000
set_option maxHeartbeats 4000000
/-! Mi6: equality. -/
namespace Mi
open PySem PySem.Spec L2
open PyProof.Rows hiding St
open AutoSeq1 (wpAny_loadPart')
open MeetsSeq SeqAt

/-! ### a dict beside a text -/
theorem dict_eq_declines_str (l : Addr) (o : Obj) (hc : o.cls = .type "dict") (b : Str) (u : Tok) :
    Meets (Builtin.«dict.__eq__» ⟨[.ref l, .str b u], []⟩) (fun _ R s => s.heap.get? l = some o ∧ R (.ok (.ret .notImplemented)) s) :=
  .of_wp fun prog w A R s h => by obtain ⟨hp, g, d, tk, os⟩ := s; obtain ⟨hl, h⟩ := h; have f1 := F.sub_str_dict; wp_walk using wpAny_loadPart' hl; exact ⟨_, rfl, h⟩
theorem str_eq_declines_obj (b : Str) (u : Tok) (l : Addr) (c : Value) (dd : Option Addr) (es : Array DictEntry) (ep : Nat) (sl : Array (Option Value)) :
    Meets (Builtin.«str.__eq__» ⟨[.str b u, .ref l], []⟩) (fun _ R s => s.heap.get? l = some { cls := c, dict := dd, data := .dict es ep, slots := sl } ∧ R (.ok (.ret .notImplemented)) s) :=
  .of_wp fun prog w A R s h => by obtain ⟨hp, g, d, tk, os⟩ := s; obtain ⟨hl, h⟩ := h; wp_walk using wpAny_loadPart' hl, wpAny_load hl; exact ⟨_, rfl, h⟩
section
variable {A : Around} {s : Shared}
theorem rc_dict_str {l : Addr} {o : Obj} {es : Array DictEntry} {ep : Nat} (ho : s.heap.get? l = some o) (hc : o.cls = .type "dict") (hd : o.data = .dict es ep) (b : Str) (u : Tok) (hu : A.units < cLine) : RcAt A s (.ref l) (.str b u) false := fun prog w E Q h => by
  obtain ⟨cls, dd, data, sl⟩ := o
  simp only at hc hd
  subst hc hd
  exact rc_eq_decline_or (k := false) ⟨_, ho, rfl⟩ (typeIs_str s b u) (by decide) F.sub_str_dict F.slot_dict_eq F.slot_str_eq_refl
    (fun _ hq => call_meets F.slot_dict_eq ⟨_, ho, rfl⟩ F.entry_dict_eq (F.args_dict_eq_2 _ _) (dict_eq_declines_str l _ rfl b u) ⟨ho, hq⟩)
    (fun _ hq => call_meets F.slot_str_eq_refl (typeIs_str s b u) F.entry_str_eq (F.args_str_eq_2 _ _) (str_eq_declines_obj b u l _ dd es ep sl) ⟨ho, hq⟩)
    (fun _ hq => wpAny_of_eq (rfl : isSame (.ref l) (.str b u) = pure false) hq) (.inr hu) h
theorem rc_str_dict {l : Addr} {o : Obj} {es : Array DictEntry} {ep : Nat} (ho : s.heap.get? l = some o) (hc : o.cls = .type "dict") (hd : o.data = .dict es ep) (b : Str) (u : Tok) (hu : A.units < cLine) : RcAt A s (.str b u) (.ref l) false := fun prog w E Q h => by
  obtain ⟨cls, dd, data, sl⟩ := o
  simp only at hc hd
  subst hc hd
  exact rc_eq_decline_or (k := false) (typeIs_str s b u) ⟨_, ho, rfl⟩ (by decide) F.sub_dict_str F.slot_str_eq F.slot_dict_eq_refl
    (fun _ hq => call_meets F.slot_str_eq (typeIs_str s b u) F.entry_str_eq (F.args_str_eq_2 _ _) (str_eq_declines_obj b u l _ dd es ep sl) ⟨ho, hq⟩)
    (fun _ hq => call_meets F.slot_dict_eq_refl ⟨_, ho, rfl⟩ F.entry_dict_eq (F.args_dict_eq_2 _ _) (dict_eq_declines_str l _ rfl b u) ⟨ho, hq⟩)
    (fun _ hq => wpAny_of_eq (rfl : isSame (.str b u) (.ref l) = pure false) hq) (.inr hu) h
theorem eq_dict_str {l : Addr} {o : Obj} {es : Array DictEntry} {ep : Nat} (ho : s.heap.get? l = some o) (hc : o.cls = .type "dict") (hd : o.data = .dict es ep) (b : Str) (u : Tok) (hu : A.units < cLine) : EqAt A s (.ref l) (.str b u) false := fun prog w E Q h => by
  unfold eqBool
  refine wpAny_holding ?_
  refine wpAny_ite_split (fun hab => absurd (eq_of_beq hab) nofun) (fun _ => ?_)
  exact wpAny_bind (rc_dict_str ho hc hd b u hu prog w E _ (PySem.wpAny_truthy_bool h))
theorem eq_str_dict {l : Addr} {o : Obj} {es : Array DictEntry} {ep : Nat} (ho : s.heap.get? l = some o) (hc : o.cls = .type "dict") (hd : o.data = .dict es ep) (b : Str) (u : Tok) (hu : A.units < cLine) : EqAt A s (.str b u) (.ref l) false := fun prog w E Q h => by
  unfold eqBool
  refine wpAny_holding ?_
  refine wpAny_ite_split (fun hab => absurd (eq_of_beq hab) nofun) (fun _ => ?_)
  exact wpAny_bind (rc_str_dict ho hc hd b u hu prog w E _ (PySem.wpAny_truthy_bool h))
end

/-! ### == of plain data -/
def eqZ (f : D → D → Option Bool) : List D → List D → Option Bool
  | x :: xs, y :: ys => match f x y, eqZ f xs ys with
    | some b, some c => some (b && c)
    | _, _ => none
  | _, _ => some true
def eqN : Nat → Store → D → D → Option Bool
  | 0, _, _, _ => none
  | n + 1, st, x, y => match x with
    | .non => (match y with
      | .non => some true
      | .bl _ | .int _ | .str _ | .tup _ => some false
      | .ref m => (match st[m]? with | some (.lst _) => some false | _ => none)
      | _ => none)
    | .bl a => (match y with
      | .bl b => some (a == b)
      | .int b => some ((if a then 1 else 0) == b)
      | .non | .str _ | .tup _ => some false
      | .ref m => (match st[m]? with | some (.lst _) => some false | _ => none)
      | _ => none)
    | .int a => (match y with
      | .int b => some (a == b)
      | .bl b => some (a == (if b then 1 else 0))
      | .non | .str _ | .tup _ => some false
      | .ref m => (match st[m]? with | some (.lst _) => some false | _ => none)
      | _ => none)
    | .str a => (match y with
      | .str b => some (a == b)
      | .non | .bl _ | .int _ | .tup _ => some false
      | .ref m => (match st[m]? with | some _ => some false | _ => none)
      | _ => none)
    | .tup xs => (match y with
      | .tup ys => (eqZ (eqN n st) xs ys).map fun b => b && xs.length == ys.length
      | .non | .bl _ | .int _ | .str _ => some false
      | .ref m => (match st[m]? with | some (.lst _) => some false | _ => none)
      | _ => none)
    | .ref l => (match st[l]? with
      | some (.lst xs) => (match y with
        | .ref m => (match st[m]? with
          | some (.lst ys) => if xs.length = ys.length then eqZ (eqN n st) xs ys else some false
          | _ => none)
        | .non | .bl _ | .int _ | .str _ | .tup _ => some false
        | _ => none)
      | some (.dic _) => (match y with
        | .str _ => some false
        | _ => none)
      | none => none)
    | .scr _ => none
    | .exn .. => none
/-- two descriptions of one value are equal -/
theorem eqZ_same {f : D → D → Option Bool} {xs ys : List D} {b : Bool} (hl : xs.length = ys.length) (h : ∀ (i : Nat) (x y : D) (b : Bool), xs[i]? = some x → ys[i]? = some y → f x y = some b → b = true) (e : eqZ f xs ys = some b) : b = true := by
  induction xs generalizing ys b with
  | nil => cases ys <;> (simp only [eqZ] at e; cases e; rfl)
  | cons x xs ih =>
    cases ys with
    | nil => cases hl
    | cons y ys =>
      simp only [eqZ] at e
      split at e
      · rename_i b1 b2 e1 e2
        cases e
        rw [h 0 x y b1 rfl rfl e1, ih (by simpa using hl) (fun i x y b h1 h2 => h (i + 1) x y b (by simpa using h1) (by simpa using h2)) e2]
        rfl
      · cases e
theorem eqZ_get {f : D → D → Option Bool} : ∀ {xs ys : List D} {b : Bool}, eqZ f xs ys = some b → ∃ g : Nat → Bool, (∀ (i : Nat) (x y : D), xs[i]? = some x → ys[i]? = some y → f x y = some (g i)) ∧ b = (List.range (min xs.length ys.length)).all g
  | [], ys, b, e => by
    refine ⟨fun _ => true, fun i x y h => by simp at h, ?_⟩
    simp only [eqZ] at e; cases e; simp
  | x :: xs, [], b, e => by
    refine ⟨fun _ => true, fun i x y h h' => by simp at h', ?_⟩
    simp only [eqZ] at e; cases e; simp
  | x :: xs, y :: ys, b, e => by
    simp only [eqZ] at e
    split at e
    · rename_i b1 b2 e1 e2
      cases e
      obtain ⟨g, hg, hb⟩ := eqZ_get e2
      refine ⟨fun i => match i with | 0 => b1 | i + 1 => g i, fun i x' y' h1 h2 => ?_, ?_⟩
      · cases i with
        | zero => simp at h1 h2; subst h1; subst h2; exact e1
        | succ i => exact hg i x' y' (by simpa using h1) (by simpa using h2)
      · rw [hb]
        simp only [List.length_cons, Nat.succ_min_succ, List.range_succ_eq_map, List.all_cons, List.all_map]
        rfl
    · cases e
/-- a plain value as it stands in the model's heap -/
inductive KD (X : Cx) (m : List Addr) (st : Store) (H : Hp) (s : Shared) : D → Value → Prop where
  | non : KD X m st H s .non .none
  | bl (b : Bool) : KD X m st H s (.bl b) (.bool b)
  | int (i : Int) (t : Tok) : KD X m st H s (.int i) (.int i t)
  | str (x : Str) (t : Tok) : KD X m st H s (.str x) (.str x t)
  | tup {ds : List D} {a : Addr} {vs : List V} {its : List Value} (h : s.heap.IsTuple a its.toArray) (hq : SqT X.K H a vs) (r : RVs X.K m H ds vs) (rv : Vals vs its) : KD X m st H s (.tup ds) (.ref a)
  | lst {l : Nat} {ds : List D} {a : Addr} {vs : List V} {its : List Value} (hl : m[l]? = some a) (hs : st[l]? = some (.lst ds)) (h : s.heap.IsList a its.toArray) (hq : H a = some (.lst vs)) (r : RVs X.K m H ds vs) (rv : Vals vs its) : KD X m st H s (.ref l) (.ref a)
  | dic {l : Nat} {kvs : List (Key × D)} {a : Addr} {o : Obj} {es : Array DictEntry} {ep : Nat} (hl : m[l]? = some a) (hs : st[l]? = some (.dic kvs)) (h : s.heap.get? a = some o) (hc : o.cls = .type "dict") (hd : o.data = .dict es ep) : KD X m st H s (.ref l) (.ref a)
  | scr (ns : List Int) (u : Value) : KD X m st H s (.scr ns) u
  | exn (a dd : Addr) (ks : List Str) (xs : List D) (u : Value) : KD X m st H s (.exn a dd ks xs) u
section
variable {X : Cx} {pins : List (Addr × Obj)} {σ : L2.St} {H : Hp} {s : Shared} {m : List Addr} {st : Store}
theorem kd_of (I : Inv X pins σ H s) (rs : RSt X.K m H st) : ∀ {d : D} {v : V} {u : Value}, RV X.K m H d v → RelV v u → KD X m st H s d u
  | .non, v, u, h, r => by simp only [RV] at h; subst h; cases r; exact .non
  | .bl b, v, u, h, r => by simp only [RV] at h; subst h; cases r; exact .bl b
  | .int i, v, u, h, r => by simp only [RV] at h; subst h; obtain ⟨t, rfl⟩ := r; exact .int i t
  | .str x, v, u, h, r => by simp only [RV] at h; subst h; obtain ⟨t, rfl⟩ := r; exact .str x t
  | .scr ns, v, u, h, r => .scr ns u
  | .exn a dd ks xs, v, u, h, r => .exn a dd ks xs u
  | .tup ds, v, u, h, r => by
    simp only [RV] at h
    obtain ⟨a, vs, rfl, hq, h⟩ := h
    cases r
    obtain ⟨its, rl, pl, hz⟩ := I.tuple hq
    exact .tup pl hq h rl
  | .ref l, v, u, h, r => by
    simp only [RV] at h
    obtain ⟨a, rfl, hl⟩ := h
    cases r
    obtain ⟨o, ho⟩ := rs.lt hl
    cases o with
    | lst ds =>
      obtain ⟨vs, h1, h2⟩ := rs.lst hl ho
      obtain ⟨its, rl, pl, hz⟩ := I.list (SqL.of h1)
      exact .lst hl ho pl.isList h1 h2 rl
    | dic kvs =>
      obtain ⟨ws, h1, h2⟩ := rs.dic hl ho
      obtain ⟨_, _, vs, _, ob, es, ep, e1, e2, e3, _⟩ := dk_of I.hok h1
      exact .dic hl ho e1 e2.1 e3
theorem tup_inj (I : Inv X pins σ H s) {a : Addr} {xs ys : List V} (h : SqT X.K H a xs) (h' : SqT X.K H a ys) : xs = ys := I.tuple_inj h h'
theorem not_both (I : Inv X pins σ H s) {a : Addr} {its its2 : List Value} (h : s.heap.IsTuple a its.toArray) (h' : s.heap.IsList a its2.toArray) : False := by
  obtain ⟨o, e, c, _⟩ := h
  obtain ⟨o', e', c', _⟩ := h'
  rw [e] at e'; cases e'
  rw [c] at c'; exact absurd c' (by simp)
/-- one value, described twice: equal -/
theorem eqN_true (I : Inv X pins σ H s) (rs : RSt X.K m H st) : ∀ (n : Nat) {x y : D} {v : V} {u : Value} {b : Bool}, RV X.K m H x v → RV X.K m H y v → RelV v u → eqN n st x y = some b → b = true
  | 0, _, _, _, _, _, _, _, _, e => by cases e
  | n + 1, x, y, v, u, b, hx, hy, r, e => by
    have kx := kd_of I rs hx r
    have ky := kd_of I rs hy r
    cases kx with
    | non => cases ky with
      | non => simp only [eqN] at e; cases e; rfl
      | scr => simp only [eqN] at e; cases e
      | exn => simp only [eqN] at e; cases e
    | bl a => cases ky with
      | bl => simp only [eqN] at e; cases e; simp
      | scr => simp only [eqN] at e; cases e
      | exn => simp only [eqN] at e; cases e
    | int i t => cases ky with
      | int => simp only [eqN] at e; cases e; simp
      | scr => simp only [eqN] at e; cases e
      | exn => simp only [eqN] at e; cases e
    | str z t => cases ky with
      | str => simp only [eqN] at e; cases e; simp
      | scr => simp only [eqN] at e; cases e
      | exn => simp only [eqN] at e; cases e
    | scr ns => simp only [eqN] at e; cases e
    | exn => simp only [eqN] at e; cases e
    | tup h hq rv rl => cases ky with
      | tup h' hq' rv' rl' =>
        simp only [eqN] at e
        obtain ⟨c, e1, rfl⟩ := Option.map_eq_some_iff.mp e
        have := tup_inj I hq hq'
        subst this
        have hl := rv.len.trans rv'.len.symm
        have : c = true := eqZ_same hl (fun i x y b h1 h2 e => by
          obtain ⟨v1, q1, q2⟩ := rv.get h1
          obtain ⟨v2, q3, q4⟩ := rv'.get h2
          rw [q1] at q3; cases q3
          obtain ⟨u1, _, q5⟩ := rl.get q1
          exact eqN_true I rs n q2 q4 q5 e) e1
        subst this
        simp [hl]
      | lst hl hs h' hq' rv' rl' => exact (not_both I h h').elim
      | dic hl hs h' hc hd =>
        obtain ⟨o, e', c, _⟩ := h
        rw [e'] at h'; cases h'
        rw [c] at hc; exact absurd hc (by simp)
      | scr => simp only [eqN] at e; cases e
      | exn => simp only [eqN] at e; cases e
    | lst hl hs h hq rv rl => cases ky with
      | tup h' hq' rv' rl' => exact (not_both I h' h).elim
      | lst hl2 hs2 h' hq' rv' rl' =>
        have := nodupA rs.nd hl hl2
        subst this
        rw [hs] at hs2; cases hs2
        rw [hq] at hq'; cases hq'
        simp only [eqN, hs] at e
        rw [if_pos trivial] at e
        exact eqZ_same rfl (fun i x y b h1 h2 e => by
          rw [h1] at h2; cases h2
          obtain ⟨v1, q1, q2⟩ := rv.get h1
          obtain ⟨u1, _, q5⟩ := rl.get q1
          exact eqN_true I rs n q2 q2 q5 e) e
      | dic hl2 hs2 h' hc hd =>
        have := nodupA rs.nd hl hl2
        subst this
        rw [hs] at hs2; cases hs2
      | scr => simp only [eqN, hs] at e; cases e
      | exn => simp only [eqN, hs] at e; cases e
    | dic hl hs h hc hd =>
      simp only [eqN, hs] at e
      cases y <;> simp only at e <;> first | (simp only [RV] at hy; subst hy; cases r; done) | (simp only [RV] at hy; subst hy; obtain ⟨_, r⟩ := r; cases r; done) | cases e
theorem list_arr {its : List Value} {i : Nat} (h : i < its.toArray.size) : its.toArray[i] = its[i]'(by simpa using h) := by simp
/-- THE equality of plain data -/
theorem eqN_at (I : Inv X pins σ H s) (rs : RSt X.K m H st) : ∀ (n : Nat) {A : Around} {x y : D} {vx vy : V} {u w : Value} {b : Bool}, A.units + n < cLine → RV X.K m H x vx → RV X.K m H y vy → RelV vx u → RelV vy w → eqN n st x y = some b → RcAt A s u w b ∧ EqAt A s u w b
  | 0, _, _, _, _, _, _, _, _, _, _, _, _, _, e => by cases e
  | n + 1, A, x, y, vx, vy, u, w, b, hA, hx, hy, ru, rw', e => by
    have hu : A.units < cLine := by omega
    have kx := kd_of I rs hx ru
    have ky := kd_of I rs hy rw'
    have items : ∀ {ds es : List D} {vs ws : List V} {is js : List Value} {c : Bool}, RVs X.K m H ds vs → RVs X.K m H es ws → Vals vs is → Vals ws js → eqZ (eqN n st) ds es = some c →
        ∃ g : Nat → Bool, c = (List.range (min is.toArray.size js.toArray.size)).all g ∧ ∀ j (h1 : j < is.toArray.size) (h2 : j < js.toArray.size), EqAt A.in1 s is.toArray[j] js.toArray[j] (g j) := by
      intro ds es vs ws is js c r1 r2 v1 v2 e
      obtain ⟨g, hg, rfl⟩ := eqZ_get e
      have l1 : ds.length = is.length := r1.len.trans v1.length
      have l2 : es.length = js.length := r2.len.trans v2.length
      refine ⟨g, by rw [l1, l2]; simp, fun j h1 h2 => ?_⟩
      have h1' : j < is.length := by simpa using h1
      have h2' : j < js.length := by simpa using h2
      obtain ⟨x1, ex1⟩ : ∃ x, ds[j]? = some x := ⟨_, List.getElem?_eq_getElem (by rw [l1]; exact h1')⟩
      obtain ⟨x2, ex2⟩ : ∃ x, es[j]? = some x := ⟨_, List.getElem?_eq_getElem (by rw [l2]; exact h2')⟩
      obtain ⟨w1, q1, q2⟩ := r1.get ex1
      obtain ⟨w2, q3, q4⟩ := r2.get ex2
      obtain ⟨u1, q5, q6⟩ := v1.get q1
      obtain ⟨u2, q7, q8⟩ := v2.get q3
      have e1 : is.toArray[j] = u1 := by rw [list_arr h1]; rw [List.getElem?_eq_getElem h1'] at q5; exact Option.some.inj q5
      have e2 : js.toArray[j] = u2 := by rw [list_arr h2]; rw [List.getElem?_eq_getElem h2'] at q7; exact Option.some.inj q7
      rw [e1, e2]
      exact (eqN_at I rs n (A := A.in1) (by show A.units + 1 + n < cLine; omega) q2 q4 q6 q8 (hg j x1 x2 ex1 ex2)).2
    have both : ∀ {a c : Addr}, u = .ref a → w = .ref c → RcAt A s u w b → EqAt A s u w b := fun {a c} eu ew h => by
      subst eu; subst ew
      by_cases hac : a = c
      · subst hac
        have ex := ru.abs
        have : vx = vy := ru.inj rw'
        subst this
        have := eqN_true I rs (n + 1) hx hy ru e
        subst this
        exact EqAt.same _
      · exact EqAt.of_refs hac h
    cases kx with
    | scr => simp only [eqN] at e; cases e
    | exn => simp only [eqN] at e; cases e
    | non => cases ky with
      | non => simp only [eqN] at e; cases e; exact ⟨RcAt.none_none, EqAt.same _⟩
      | bl c => simp only [eqN] at e; cases e; exact ⟨RcAt.none_bool c, EqAt.none_bool c⟩
      | int c t => simp only [eqN] at e; cases e; exact ⟨RcAt.none_int c t, EqAt.none_int c t⟩
      | str c t => simp only [eqN] at e; cases e; exact ⟨RcAt.none_str c t, EqAt.none_str c t⟩
      | tup h hq r rl => simp only [eqN] at e; cases e; exact ⟨RcAt.none_tuple h hu, EqAt.none_tuple h hu⟩
      | lst hl hs h hq r rl => simp only [eqN, hs] at e; cases e; exact ⟨RcAt.none_list h hu, EqAt.none_list h hu⟩
      | dic hl hs h hc hd => simp only [eqN, hs] at e; cases e
      | scr => simp only [eqN] at e; cases e
      | exn => simp only [eqN] at e; cases e
    | bl a => cases ky with
      | non => simp only [eqN] at e; cases e; exact ⟨RcAt.bool_none a, EqAt.bool_none a⟩
      | bl c => simp only [eqN] at e; cases e; exact ⟨RcAt.bool_bool a c, EqAt.bool_bool a c⟩
      | int c t => simp only [eqN] at e; cases e; exact ⟨RcAt.bool_int a c t, EqAt.bool_int a c t⟩
      | str c t => simp only [eqN] at e; cases e; exact ⟨RcAt.bool_str a c t, EqAt.bool_str a c t⟩
      | tup h hq r rl => simp only [eqN] at e; cases e; exact ⟨RcAt.bool_tuple a h hu, EqAt.bool_tuple a h hu⟩
      | lst hl hs h hq r rl => simp only [eqN, hs] at e; cases e; exact ⟨RcAt.bool_list a h hu, EqAt.bool_list a h hu⟩
      | dic hl hs h hc hd => simp only [eqN, hs] at e; cases e
      | scr => simp only [eqN] at e; cases e
      | exn => simp only [eqN] at e; cases e
    | int a t0 => cases ky with
      | non => simp only [eqN] at e; cases e; exact ⟨RcAt.int_none a t0, EqAt.int_none a t0⟩
      | bl c => simp only [eqN] at e; cases e; exact ⟨RcAt.int_bool a t0 c, EqAt.int_bool a t0 c⟩
      | int c t => simp only [eqN] at e; cases e; exact ⟨RcAt.int_int a t0 c t, EqAt.int_int a t0 c t⟩
      | str c t => simp only [eqN] at e; cases e; exact ⟨RcAt.int_str a t0 c t, EqAt.int_str a t0 c t⟩
      | tup h hq r rl => simp only [eqN] at e; cases e; exact ⟨RcAt.int_tuple a t0 h hu, EqAt.int_tuple a t0 h hu⟩
      | lst hl hs h hq r rl => simp only [eqN, hs] at e; cases e; exact ⟨RcAt.int_list a t0 h hu, EqAt.int_list a t0 h hu⟩
      | dic hl hs h hc hd => simp only [eqN, hs] at e; cases e
      | scr => simp only [eqN] at e; cases e
      | exn => simp only [eqN] at e; cases e
    | str a t0 => cases ky with
      | non => simp only [eqN] at e; cases e; exact ⟨RcAt.str_none a t0, EqAt.str_none a t0⟩
      | bl c => simp only [eqN] at e; cases e; exact ⟨RcAt.str_bool a t0 c, EqAt.str_bool a t0 c⟩
      | int c t => simp only [eqN] at e; cases e; exact ⟨RcAt.str_int a t0 c t, EqAt.str_int a t0 c t⟩
      | str c t => simp only [eqN] at e; cases e; exact ⟨RcAt.str_str a t0 c t, EqAt.str_str a t0 c t⟩
      | tup h hq r rl => simp only [eqN] at e; cases e; exact ⟨RcAt.str_tuple a t0 h hu, EqAt.str_tuple a t0 h hu⟩
      | lst hl hs h hq r rl => simp only [eqN, hs] at e; cases e; exact ⟨RcAt.str_list a t0 h hu, EqAt.str_list a t0 h hu⟩
      | dic hl hs h hc hd => simp only [eqN, hs] at e; cases e; exact ⟨rc_str_dict h hc hd a t0 hu, eq_str_dict h hc hd a t0 hu⟩
      | scr => simp only [eqN] at e; cases e
      | exn => simp only [eqN] at e; cases e
    | tup h0 hq0 r0 rl0 => cases ky with
      | non => simp only [eqN] at e; cases e; exact ⟨RcAt.tuple_none h0 hu, EqAt.tuple_none h0 hu⟩
      | bl c => simp only [eqN] at e; cases e; exact ⟨RcAt.tuple_bool c h0 hu, EqAt.tuple_bool c h0 hu⟩
      | int c t => simp only [eqN] at e; cases e; exact ⟨RcAt.tuple_int c t h0 hu, EqAt.tuple_int c t h0 hu⟩
      | str c t => simp only [eqN] at e; cases e; exact ⟨RcAt.tuple_str c t h0 hu, EqAt.tuple_str c t h0 hu⟩
      | tup h hq r rl =>
        have e' := e
        simp only [eqN] at e'
        obtain ⟨c, e1, e2⟩ := Option.map_eq_some_iff.mp e'
        obtain ⟨g, hg, hi⟩ := items r0 r rl0 rl e1
        have z := RcAt.tuples (A := A) h0 h hu hi
        rw [← hg] at z
        have l1 := r0.len.trans rl0.length
        have l2 := r.len.trans rl.length
        simp only [List.size_toArray] at z
        rw [← l1, ← l2, e2] at z
        exact ⟨z, both rfl rfl z⟩
      | lst hl hs h hq r rl => simp only [eqN, hs] at e; cases e; exact ⟨RcAt.tuple_list h0 h hu, EqAt.tuple_list h0 h hu⟩
      | dic hl hs h hc hd => simp only [eqN, hs] at e; cases e
      | scr => simp only [eqN] at e; cases e
      | exn => simp only [eqN] at e; cases e
    | lst hl0 hs0 h0 hq0 r0 rl0 => cases ky with
      | non => simp only [eqN, hs0] at e; cases e; exact ⟨RcAt.list_none h0 hu, EqAt.list_none h0 hu⟩
      | bl c => simp only [eqN, hs0] at e; cases e; exact ⟨RcAt.list_bool c h0 hu, EqAt.list_bool c h0 hu⟩
      | int c t => simp only [eqN, hs0] at e; cases e; exact ⟨RcAt.list_int c t h0 hu, EqAt.list_int c t h0 hu⟩
      | str c t => simp only [eqN, hs0] at e; cases e; exact ⟨RcAt.list_str c t h0 hu, EqAt.list_str c t h0 hu⟩
      | tup h hq r rl => simp only [eqN, hs0] at e; cases e; exact ⟨RcAt.list_tuple h0 h hu, EqAt.list_tuple h0 h hu⟩
      | lst hl hs h hq r rl =>
        have e' := e
        simp only [eqN, hs0, hs] at e'
        have l1 := r0.len.trans rl0.length
        have l2 := r.len.trans rl.length
        split at e'
        · rename_i hlen
          obtain ⟨g, hg, hi⟩ := items r0 r rl0 rl e'
          have hsz : (_ : Nat) = _ := l1.symm.trans (hlen.trans l2)
          have z := RcAt.lists (A := A) h0 h (by simpa using hsz) hu hi
          simp only [List.size_toArray] at z hg
          rw [← hsz, Nat.min_self] at hg
          rw [← hg] at z
          exact ⟨z, both rfl rfl z⟩
        · rename_i hlen
          cases e'
          have z := RcAt.lists_lengths (A := A) h0 h (by simpa [l1, l2] using hlen) hu
          exact ⟨z, both rfl rfl z⟩
      | dic hl hs h hc hd => simp only [eqN, hs, hs0] at e; cases e
      | scr => simp only [eqN, hs0] at e; cases e
      | exn => simp only [eqN, hs0] at e; cases e
    | dic hl0 hs0 h0 hc0 hd0 => cases ky with
      | str c t => simp only [eqN, hs0] at e; cases e; exact ⟨rc_dict_str h0 hc0 hd0 c t hu, eq_dict_str h0 hc0 hd0 c t hu⟩
      | _ => simp only [eqN, hs0] at e; cases e
end
def EQN : Nat := 60
def eqF (x y : D) (st : Store) : Option Bool := eqN EQN st x y
theorem op_eqF {X : Cx} (hu : X.A.units + 64 < cLine) : OpS X (compareOp .Eq) (opB fun x y st => eqF x y st) := by
  intro pins s σ H x y v u Q I rx ry h
  obtain ⟨m, st, dx, dy, rs, r1, r2, h⟩ := h
  cases q : eqN EQN st dx dy with
  | none => simp only [opB, eqF, q] at h; exact h.elim
  | some b =>
    simp only [opB, eqF, q, Option.map_some] at h
    have z := (eqN_at I rs EQN (A := X.A) (by unfold EQN; omega) r1 r2 rx ry q).1
    exact z X.prog X.w X.xe _ ⟨.bl b, H, I, rfl, h m H _ Ext.refl rs (by simp [RV])⟩
end Mi
set_option Elab.async false
set_option linter.all false
set_option maxRecDepth 100000
set_option maxHeartbeats 4000000
/-! Mi7: operations. -/
namespace Mi
open PySem PySem.Spec L2
open PyProof.Rows hiding St
abbrev OpF := D → D → Store → Option (D × Store)

/-! ### arithmetic -/
def addF : OpF := fun x y st => match x, y with
  | .int a, .int b => some (.int (a + b), st)
  | .str a, .str b => if a.length + b.length ≤ LIM then some (.str (a ++ b), st) else none
  | .tup a, .tup b => if a.length + b.length ≤ LIM then some (.tup (a ++ b), st) else none
  | .ref l, .ref m => match st[l]?, st[m]? with
    | some (.lst a), some (.lst b) => if a.length + b.length ≤ LIM then alloc (.lst (a ++ b)) st else none
    | _, _ => none
  | _, _ => none
def subF : OpF := fun x y st => match x, y with
  | .int a, .int b => some (.int (a - b), st)
  | _, _ => none
def mulF : OpF := fun x y st => match x, y with
  | .int a, .int b => if a.natAbs.log2 + b.natAbs.log2 < 1000000 then some (.int (a * b), st) else none
  | .str a, .int n => if 0 ≤ n ∧ n ≤ 1000000 ∧ a.length * n.toNat ≤ LIM then some (.str ⟨(List.replicate n.toNat a.cps.toList).flatten.toArray⟩, st) else none
  | .tup a, .int n => if 0 ≤ n ∧ n ≤ 1000 ∧ a.length ≤ 1000 then some (.tup (List.replicate n.toNat a).flatten, st) else none
  | .ref l, .int n => match st[l]? with
    | some (.lst a) => if 0 ≤ n ∧ n ≤ 1000000 ∧ a.length * n.toNat ≤ LIM then alloc (.lst (List.replicate n.toNat a).flatten) st else none
    | _ => none
  | _, _ => none
def fdivF : OpF := fun x y st => match x, y with
  | .int a, .int b => if 0 < b ∧ b.natAbs.log2 < 9000 then some (.int (a / b), st) else none
  | _, _ => none
def modF : OpF := fun x y st => match x, y with
  | .int a, .int b => if 0 < b then some (.int (a % b), st) else none
  | _, _ => none
def powF : OpF := fun x y st => match x, y with
  | .int a, .int b => if 0 ≤ b ∧ b ≤ 1000000 ∧ a.natAbs < 2 ^ 64 then some (.int (a ^ b.toNat), st) else none
  | _, _ => none
def negF : D → Store → Option (D × Store) := fun x st => match x with
  | .int a => some (.int (-a), st)
  | _ => none
/-- a comparison of two ints -/
def cmpI (p : Int → Int → Bool) : OpF := fun x y st => match x, y with
  | .int a, .int b => some (.bl (p a b), st)
  | _, _ => none
def isNF : OpF := fun x y st => match y with
  | .non => some (.bl (match x with | .non => true | _ => false), st)
  | _ => none
def isNotNF : OpF := fun x y st => match y with
  | .non => some (.bl (match x with | .non => false | _ => true), st)
  | _ => none
section
variable {X : Cx}
theorem opI2 {f : Value → Value → Sem Value} {C : Int → Int → Prop} {g : Int → Int → V} {G : OpF} (h : OpR X f (rI C g)) (hG : ∀ x y st r, G x y st = some r → ∃ a b, x = .int a ∧ y = .int b ∧ C a b ∧ ∃ d, r = (d, st) ∧ ∀ K m H, RV K m H d (g a b)) : OpS X f G := by
  intro pins s σ H x y v u Q I rx ry q
  obtain ⟨m, st, dx, dy, rs, r1, r2, q⟩ := q
  cases e : G dx dy st with
  | none => rw [e] at q; exact q.elim
  | some r =>
    rw [e] at q
    obtain ⟨a, b, rfl, rfl, c, d, rfl, hd⟩ := hG dx dy st r e
    simp only [RV] at r1 r2
    subst r1; subst r2
    exact h pins s σ H _ _ v u Q I rx ry ⟨a, b, rfl, rfl, c, q m H _ Ext.refl rs (hd X.K m H)⟩
theorem opI20 {f : Value → Value → Sem Value} {g : Int → Int → V} {G : OpF} (h : OpR X f (rI0 g)) (hG : ∀ x y st r, G x y st = some r → ∃ a b, x = .int a ∧ y = .int b ∧ ∃ d, r = (d, st) ∧ ∀ K m H, RV K m H d (g a b)) : OpS X f G := by
  intro pins s σ H x y v u Q I rx ry q
  obtain ⟨m, st, dx, dy, rs, r1, r2, q⟩ := q
  cases e : G dx dy st with
  | none => rw [e] at q; exact q.elim
  | some r =>
    rw [e] at q
    obtain ⟨a, b, rfl, rfl, d, rfl, hd⟩ := hG dx dy st r e
    simp only [RV] at r1 r2
    subst r1; subst r2
    exact h pins s σ H _ _ v u Q I rx ry ⟨a, b, rfl, rfl, q m H _ Ext.refl rs (hd X.K m H)⟩
theorem os_sub : OpS X (binaryOp .Sub) subF := opI20 op_sub fun x y st r e => by
  unfold subF at e
  split at e
  · cases e; exact ⟨_, _, rfl, rfl, _, rfl, fun _ _ _ => by simp [RV]⟩
  · cases e
theorem os_fdiv : OpS X (binaryOp .FloorDiv) fdivF := opI2 op_fdivW fun x y st r e => by
  unfold fdivF at e
  split at e
  · split at e
    · rename_i h
      cases e; exact ⟨_, _, rfl, rfl, h, _, rfl, fun _ _ _ => by simp [RV]⟩
    · cases e
  · cases e
theorem os_mod : OpS X (binaryOp .Mod) modF := opI2 op_mod fun x y st r e => by
  unfold modF at e
  split at e
  · split at e
    · rename_i h
      cases e; exact ⟨_, _, rfl, rfl, h, _, rfl, fun _ _ _ => by simp [RV]⟩
    · cases e
  · cases e
theorem os_pow : OpS X (binaryOp .Pow) powF := opI2 op_pow fun x y st r e => by
  unfold powF at e
  split at e
  · split at e
    · rename_i h
      cases e; exact ⟨_, _, rfl, rfl, h, _, rfl, fun _ _ _ => by simp [RV]⟩
    · cases e
  · cases e
theorem os_cmpI {op : CmpOp} {p : Int → Int → Bool} (h : OpR X (compareOp op) (rI0 fun i j => .bl (p i j))) : OpS X (compareOp op) (cmpI p) := opI20 h fun x y st r e => by
  unfold cmpI at e
  split at e
  · cases e; exact ⟨_, _, rfl, rfl, _, rfl, fun _ _ _ => by simp [RV]⟩
  · cases e
theorem os_lt : OpS X (compareOp .Lt) (cmpI fun i j => decide (i < j)) := os_cmpI op_lt
theorem os_le : OpS X (compareOp .LtE) (cmpI fun i j => decide (i ≤ j)) := os_cmpI op_le
theorem os_gt : OpS X (compareOp .Gt) (cmpI fun i j => decide (j < i)) := os_cmpI op_gt
theorem os_ge : OpS X (compareOp .GtE) (cmpI fun i j => decide (j ≤ i)) := os_cmpI op_ge
theorem us_neg : UnS X (unaryOp .USub) negF := by
  intro pins s σ H x v Q I rx q
  obtain ⟨m, st, dx, rs, r1, q⟩ := q
  cases dx with
  | int a =>
    simp only [RV] at r1
    subst r1
    exact un_neg pins s σ H _ v Q I rx ⟨a, rfl, q m H _ Ext.refl rs (by simp [RV])⟩
  | _ => exact q.elim
theorem rv_non_iff {K : PySem.W.Frag} {m : List Addr} {H : Hp} {d : D} {v : V} (r : RV K m H d v) : decide (v = .non) = (match d with | .non => true | _ => false) := by
  cases d with
  | non => simp only [RV] at r; subst r; rfl
  | bl _ => simp only [RV] at r; subst r; rfl
  | int _ => simp only [RV] at r; subst r; rfl
  | str _ => simp only [RV] at r; subst r; rfl
  | tup _ => simp only [RV] at r; obtain ⟨_, _, rfl, _⟩ := r; rfl
  | ref _ => simp only [RV] at r; obtain ⟨_, rfl, _⟩ := r; rfl
  | scr _ => simp only [RV] at r; obtain ⟨_, rfl, _⟩ := r; rfl
  | exn => simp only [RV] at r; obtain ⟨rfl, _⟩ := r; rfl
theorem os_isN : OpS X (compareOp .Is) isNF := by
  intro pins s σ H x y v u Q I rx ry q
  obtain ⟨m, st, dx, dy, rs, r1, r2, q⟩ := q
  cases dy with
  | non =>
    simp only [RV] at r2
    subst r2
    refine op_isN pins s σ H _ _ v u Q I rx ry ⟨rfl, ?_⟩
    rw [rv_non_iff r1]
    exact q m H _ Ext.refl rs (by cases dx <;> simp [RV])
  | _ => exact q.elim
theorem os_isNotN : OpS X (compareOp .IsNot) isNotNF := by
  intro pins s σ H x y v u Q I rx ry q
  obtain ⟨m, st, dx, dy, rs, r1, r2, q⟩ := q
  cases dy with
  | non =>
    simp only [RV] at r2
    subst r2
    refine op_notN pins s σ H _ _ v u Q I rx ry ⟨rfl, ?_⟩
    rw [rv_non_iff r1]
    exact q m H _ Ext.refl rs (by cases dx <;> simp [RV])
  | _ => exact q.elim
theorem os_add : OpS X (binaryOp .Add) addF := by
  intro pins s σ H x y v u Q I rx ry q
  obtain ⟨m, st, dx, dy, rs, r1, r2, q⟩ := q
  cases dx with
  | int a =>
    cases dy with
    | int b =>
      simp only [RV] at r1 r2
      subst r1; subst r2
      exact op_add pins s σ H _ _ v u Q I rx ry ⟨a, b, rfl, rfl, q m H _ Ext.refl rs (by simp [RV])⟩
    | _ => exact q.elim
  | str a =>
    cases dy with
    | str b =>
      simp only [RV] at r1 r2
      subst r1; subst r2
      simp only [addF] at q
      split at q
      · rename_i hz
        exact op_add_str pins s σ H _ _ v u Q I rx ry ⟨a, b, rfl, rfl, ofLim hz, q m H _ Ext.refl rs (by simp [RV])⟩
      · exact q.elim
    | _ => exact q.elim
  | tup a =>
    cases dy with
    | tup b =>
      simp only [addF] at q
      split at q
      · rename_i hz
        have r1' := r1
        have r2' := r2
        simp only [RV] at r1 r2
        obtain ⟨p, vs, rfl, h1, h2⟩ := r1
        obtain ⟨p', vs', rfl, h1', h2'⟩ := r2
        refine op_catA pins s σ H _ _ v u Q I rx ry ⟨p, p', vs, vs', rfl, rfl, h1, h1', by rw [← h2.len, ← h2'.len]; exact ofLim hz, fun e => ?_, fun _ e => ?_, fun _ _ p hp => ?_⟩
        · have : a = [] := by
            have := h2.len
            rw [e] at this
            exact List.eq_nil_of_length_eq_zero (by simpa using this)
          subst this
          exact q m H _ Ext.refl rs (by simpa using r2')
        · have : b = [] := by
            have := h2'.len
            rw [e] at this
            exact List.eq_nil_of_length_eq_zero (by simpa using this)
          subst this
          exact q m H _ Ext.refl rs (by simpa using r1')
        · exact postO_tup rs q hp (h2.append h2')
      · exact q.elim
    | _ => exact q.elim
  | ref l =>
    cases dy with
    | ref l' =>
      simp only [RV] at r1 r2
      obtain ⟨p, rfl, h1⟩ := r1
      obtain ⟨p', rfl, h1'⟩ := r2
      simp only [addF] at q
      split at q
      · rename_i a b ha hb
        split at q
        · rename_i hz
          obtain ⟨vs, e1, e2⟩ := rs.lst h1 ha
          obtain ⟨vs', e1', e2'⟩ := rs.lst h1' hb
          exact op_cat pins s σ H _ _ v u Q I rx ry ⟨p, p', vs, vs', rfl, rfl, e1, e1', by rw [← e2.len, ← e2'.len]; exact ofLim hz, fun p hp => postO_lst rs q hp (e2.append e2')⟩
        · exact q.elim
      · exact q.elim
    | _ => exact q.elim
  | _ => exact q.elim

/-! ### items -/
def ixF : OpF := fun x y st => match x, y with
  | .tup ds, .int i => (atI ds i).map fun d => (d, st)
  | .str z, .int i => if z.length ≤ LIM then (atI z.cps.toList i).map fun c => (.str ⟨#[c]⟩, st) else none
  | .scr ns, .int i => (atI ns i).map fun n => (.int n, st)
  | .ref l, .int i => match st[l]? with
    | some (.lst ds) => (atI ds i).map fun d => (d, st)
    | some (.dic kvs) => (kvGet kvs (Sum.inl i)).map fun d => (d, st)
    | none => none
  | .ref l, .str z => match st[l]? with
    | some (.dic kvs) => (kvGet kvs (Sum.inr z)).map fun d => (d, st)
    | _ => none
  | _, _ => none
theorem RVs.atI {K : PySem.W.Frag} {m : List Addr} {H : Hp} {ds : List D} {vs : List V} {i : Int} {d : D} (r : RVs K m H ds vs) (e : L2.atI ds i = some d) : ∃ v, L2.atI vs i = some v ∧ RV K m H d v := by
  unfold L2.atI at e ⊢
  rw [r.len] at e
  cases q : ixN vs.length i with
  | none => rw [q] at e; cases e
  | some j =>
    rw [q] at e
    exact r.get e
theorem ix_dict (hu : X.A.units + 1 < cLine) : IxR X (fun x y H Q => ∃ a v, x = .ref a ∧ DGet H a y (some v) ∧ Q v H) := by
  intro value slice pins s σ H x y v u Q I rx ry h hs
  obtain ⟨a, w, rfl, g, q⟩ := h
  cases rx
  exact tail_any (dict_typeIs I g) PySem.F.slot_dict_getitem.lookup (d_getItem hu I g ry fun w' s' I' r' => ⟨w, H, I', r', q⟩) hs
theorem is_ix (hu : X.A.units + 1 < cLine) : IxS X ixF := by
  intro value slice pins s σ H x y v u Q I rx ry q hs
  obtain ⟨m, st, dx, dy, rs, r1, r2, q⟩ := q
  cases dx with
  | tup ds =>
    cases dy with
    | int i =>
      simp only [RV] at r1 r2
      obtain ⟨p, vs, rfl, h1, h2⟩ := r1
      subst r2
      simp only [ixF] at q
      cases e : atI ds i with
      | none => rw [e] at q; exact q.elim
      | some d =>
        rw [e] at q
        obtain ⟨w, e1, e2⟩ := h2.atI e
        exact ix_tup value slice pins s σ H _ _ v u Q I rx ry ⟨p, vs, i, w, rfl, rfl, h1, e1, q m H _ Ext.refl rs e2⟩ hs
    | _ => exact q.elim
  | str z =>
    cases dy with
    | int i =>
      simp only [RV] at r1 r2
      subst r1; subst r2
      simp only [ixF] at q
      split at q
      · rename_i hz
        cases e : atI z.cps.toList i with
        | none => rw [e] at q; exact q.elim
        | some c =>
          rw [e] at q
          exact ix_str value slice pins s σ H _ _ v u Q I rx ry ⟨z, i, c, rfl, rfl, ofLim hz, e, q m H _ Ext.refl rs (by simp [RV])⟩ hs
      · exact q.elim
    | _ => exact q.elim
  | scr ns =>
    cases dy with
    | int i =>
      simp only [RV] at r1 r2
      obtain ⟨p, rfl, h1⟩ := r1
      subst r2
      simp only [ixF] at q
      cases e : atI ns i with
      | none => rw [e] at q; exact q.elim
      | some n =>
        rw [e] at q
        have e1 : atI (ns.map V.int) i = some (.int n) := by
          unfold atI at e ⊢
          rw [List.length_map]
          cases q2 : ixN ns.length i with
          | none => rw [q2] at e; cases e
          | some j => rw [q2] at e; show (ns.map V.int)[j]? = _; rw [List.getElem?_map]; have e : ns[j]? = some n := e; rw [e]; rfl
        exact ix_list value slice pins s σ H _ _ v u Q I rx ry ⟨p, _, i, _, rfl, rfl, h1.seq, e1, q m H _ Ext.refl rs (by simp [RV])⟩ hs
    | _ => exact q.elim
  | ref l =>
    simp only [RV] at r1
    obtain ⟨p, rfl, h1⟩ := r1
    cases dy with
    | int i =>
      simp only [RV] at r2
      subst r2
      simp only [ixF] at q
      split at q
      · rename_i ds ho
        obtain ⟨vs, e1, e2⟩ := rs.lst h1 ho
        cases e : atI ds i with
        | none => rw [e] at q; exact q.elim
        | some d =>
          rw [e] at q
          obtain ⟨w, e3, e4⟩ := e2.atI e
          exact ix_list value slice pins s σ H _ _ v u Q I rx ry ⟨p, vs, i, w, rfl, rfl, SqL.of e1, e3, q m H _ Ext.refl rs e4⟩ hs
      · rename_i kvs ho
        obtain ⟨ws, e1, e2⟩ := rs.dic h1 ho
        cases e : kvGet kvs (Sum.inl i) with
        | none => rw [e] at q; exact q.elim
        | some d =>
          rw [e] at q
          obtain ⟨w, e3, e4⟩ := e2.get _ e
          exact ix_dict hu value slice pins s σ H _ _ v u Q I rx ry ⟨p, w, rfl, by rw [← e3]; exact DGet.k (k := Sum.inl i) e1, q m H _ Ext.refl rs e4⟩ hs
      · exact q.elim
    | str z =>
      simp only [RV] at r2
      subst r2
      simp only [ixF] at q
      split at q
      · rename_i kvs ho
        obtain ⟨ws, e1, e2⟩ := rs.dic h1 ho
        cases e : kvGet kvs (Sum.inr z) with
        | none => rw [e] at q; exact q.elim
        | some d =>
          rw [e] at q
          obtain ⟨w, e3, e4⟩ := e2.get _ e
          exact ix_dict hu value slice pins s σ H _ _ v u Q I rx ry ⟨p, w, rfl, by rw [← e3]; exact DGet.k (k := Sum.inr z) e1, q m H _ Ext.refl rs e4⟩ hs
      · exact q.elim
    | _ => exact q.elim
  | _ => exact q.elim

/-! ### slices -/
def cutD {α : Type} (xs : List α) (lo hi : Option Int) : List α := (xs.drop (HT.sIx xs.length 0 lo)).take (HT.sIx xs.length xs.length hi - HT.sIx xs.length 0 lo)
def slF (x : D) (lo hi : Option Int) (st : Store) : Option (D × Store) := match x with
  | .tup ds => some (.tup (cutD ds lo hi), st)
  | .str z => if z.length ≤ LIM then some (.str (cutS z lo hi), st) else none
  | .scr ns => alloc (.lst (cutD (ns.map .int) lo hi)) st
  | .ref l => match st[l]? with
    | some (.lst ds) => alloc (.lst (cutD ds lo hi)) st
    | _ => none
  | _ => none
theorem RVs.cut {K : PySem.W.Frag} {m : List Addr} {H : Hp} {ds : List D} {vs : List V} (r : RVs K m H ds vs) (lo hi : Option Int) : RVs K m H (cutD ds lo hi) (cutV vs lo hi) := by
  unfold cutD cutV
  rw [r.len]
  exact (r.drop _).take _
theorem ss_sl : SlS X slF := by
  intro pins s σ H x v vl vu lo hi sl Q I rx hsl pl pu q
  obtain ⟨m, st, dx, rs, r1, q⟩ := q
  cases dx with
  | tup ds =>
    have r1' := r1
    simp only [RV] at r1
    obtain ⟨p, vs, rfl, h1, h2⟩ := r1
    refine sl_tupA pins s σ H _ v vl vu lo hi sl Q I rx hsl pl pu ⟨p, vs, rfl, h1, fun hw => ?_, fun _ p hp => postO_tup rs q hp (h2.cut lo hi)⟩
    have : cutD ds lo hi = ds := by
      unfold cutD
      rw [h2.len, hw.1, hw.2, List.drop_zero, Nat.sub_zero, List.take_of_length_le (by rw [h2.len]; exact Nat.le_refl _)]
    simp only [slF, this] at q
    exact q m H _ Ext.refl rs r1'
  | str z =>
    simp only [RV] at r1
    subst r1
    simp only [slF] at q
    split at q
    · rename_i hz
      exact sl_str pins s σ H _ v vl vu lo hi sl Q I rx hsl pl pu ⟨z, rfl, ofLim hz, q m H _ Ext.refl rs (by simp [RV])⟩
    · exact q.elim
  | scr ns =>
    simp only [RV] at r1
    obtain ⟨p, rfl, h1⟩ := r1
    have h2 : RVs X.K m H (ns.map D.int) (ns.map V.int) := RVs.ints.mpr rfl
    exact sl_list pins s σ H _ v vl vu lo hi sl Q I rx hsl pl pu ⟨p, _, rfl, h1.seq, fun p hp => postO_lst rs q hp (h2.cut lo hi)⟩
  | ref l =>
    simp only [RV] at r1
    obtain ⟨p, rfl, h1⟩ := r1
    simp only [slF] at q
    split at q
    · rename_i ds ho
      obtain ⟨vs, e1, e2⟩ := rs.lst h1 ho
      exact sl_list pins s σ H _ v vl vu lo hi sl Q I rx hsl pl pu ⟨p, vs, rfl, SqL.of e1, fun p hp => postO_lst rs q hp (e2.cut lo hi)⟩
    · exact q.elim
  | _ => exact q.elim
end
end Mi
set_option Elab.async false
set_option linter.all false
set_option maxRecDepth 100000
set_option maxHeartbeats 4000000
/-! Mi8: !=, in, products. -/
namespace Mi
open PySem PySem.Spec L2
open PyProof.Rows hiding St
open AutoSeq1 (wpAny_loadPart')
open MeetsSeq SeqAt

def isDicF (x : D) (st : Store) : Bool := match x with
  | .ref l => (match st[l]? with | some (.dic _) => true | _ => false)
  | _ => false
def neF (x y : D) (st : Store) : Option Bool := if isDicF x st || isDicF y st then none else (eqN EQN st x y).map (!·)
section
variable {X : Cx} {pins : List (Addr × Obj)} {σ : L2.St} {H : Hp} {s : Shared} {m : List Addr} {st : Store}
theorem eq_items (I : Inv X pins σ H s) (rs : RSt X.K m H st) {n : Nat} {A : Around} (hA : A.units + 1 + n < cLine) {ds es : List D} {vs ws : List V} {is js : List Value} {c : Bool} (r1 : RVs X.K m H ds vs) (r2 : RVs X.K m H es ws) (v1 : Vals vs is) (v2 : Vals ws js) (e : eqZ (eqN n st) ds es = some c) :
    ∃ g : Nat → Bool, c = (List.range (min is.toArray.size js.toArray.size)).all g ∧ ∀ j (h1 : j < is.toArray.size) (h2 : j < js.toArray.size), EqAt A.in1 s is.toArray[j] js.toArray[j] (g j) := by
  obtain ⟨g, hg, rfl⟩ := eqZ_get e
  have l1 : ds.length = is.length := r1.len.trans v1.length
  have l2 : es.length = js.length := r2.len.trans v2.length
  refine ⟨g, by rw [l1, l2]; simp, fun j h1 h2 => ?_⟩
  have h1' : j < is.length := by simpa using h1
  have h2' : j < js.length := by simpa using h2
  obtain ⟨x1, ex1⟩ : ∃ x, ds[j]? = some x := ⟨_, List.getElem?_eq_getElem (by rw [l1]; exact h1')⟩
  obtain ⟨x2, ex2⟩ : ∃ x, es[j]? = some x := ⟨_, List.getElem?_eq_getElem (by rw [l2]; exact h2')⟩
  obtain ⟨w1, q1, q2⟩ := r1.get ex1
  obtain ⟨w2, q3, q4⟩ := r2.get ex2
  obtain ⟨u1, q5, q6⟩ := v1.get q1
  obtain ⟨u2, q7, q8⟩ := v2.get q3
  have e1 : is.toArray[j] = u1 := by rw [list_arr h1]; rw [List.getElem?_eq_getElem h1'] at q5; exact Option.some.inj q5
  have e2 : js.toArray[j] = u2 := by rw [list_arr h2]; rw [List.getElem?_eq_getElem h2'] at q7; exact Option.some.inj q7
  rw [e1, e2]
  exact (eqN_at I rs n (A := A.in1) hA q2 q4 q6 q8 (hg j x1 x2 ex1 ex2)).2
theorem neN_at (I : Inv X pins σ H s) (rs : RSt X.K m H st) {n : Nat} {A : Around} {x y : D} {vx vy : V} {u w : Value} {b : Bool} (hA : A.units + (n + 1) < cLine) (hx : RV X.K m H x vx) (hy : RV X.K m H y vy) (ru : RelV vx u) (rw' : RelV vy w)
    (nx : isDicF x st = false) (ny : isDicF y st = false) (e : eqN (n + 1) st x y = some b) : RcNeAt A s u w (!b) := by
  have hu : A.units < cLine := by omega
  have kx := kd_of I rs hx ru
  have ky := kd_of I rs hy rw'
  cases kx with
  | scr => simp only [eqN] at e; cases e
  | exn => simp only [eqN] at e; cases e
  | dic hl hs h hc hd => simp only [isDicF, hs] at nx; cases nx
  | non => cases ky with
    | non => simp only [eqN] at e; cases e; exact RcNeAt.none_none
    | bl c => simp only [eqN] at e; cases e; exact RcNeAt.none_bool c
    | int c t => simp only [eqN] at e; cases e; exact RcNeAt.none_int c t
    | str c t => simp only [eqN] at e; cases e; exact RcNeAt.none_str c t
    | tup h hq r rl => simp only [eqN] at e; cases e; exact RcNeAt.none_tuple h hu
    | lst hl hs h hq r rl => simp only [eqN, hs] at e; cases e; exact RcNeAt.none_list h hu
    | dic hl hs h hc hd => simp only [isDicF, hs] at ny; cases ny
    | scr => simp only [eqN] at e; cases e
    | exn => simp only [eqN] at e; cases e
  | bl a => cases ky with
    | non => simp only [eqN] at e; cases e; exact RcNeAt.bool_none a
    | bl c => simp only [eqN] at e; cases e; exact RcNeAt.bool_bool a c
    | int c t => simp only [eqN] at e; cases e; exact RcNeAt.bool_int a c t
    | str c t => simp only [eqN] at e; cases e; exact RcNeAt.bool_str a c t
    | tup h hq r rl => simp only [eqN] at e; cases e; exact RcNeAt.bool_tuple a h hu
    | lst hl hs h hq r rl => simp only [eqN, hs] at e; cases e; exact RcNeAt.bool_list a h hu
    | dic hl hs h hc hd => simp only [isDicF, hs] at ny; cases ny
    | scr => simp only [eqN] at e; cases e
    | exn => simp only [eqN] at e; cases e
  | int a t0 => cases ky with
    | non => simp only [eqN] at e; cases e; exact RcNeAt.int_none a t0
    | bl c => simp only [eqN] at e; cases e; exact RcNeAt.int_bool a t0 c
    | int c t => simp only [eqN] at e; cases e; exact RcNeAt.int_int a t0 c t
    | str c t => simp only [eqN] at e; cases e; exact RcNeAt.int_str a t0 c t
    | tup h hq r rl => simp only [eqN] at e; cases e; exact RcNeAt.int_tuple a t0 h hu
    | lst hl hs h hq r rl => simp only [eqN, hs] at e; cases e; exact RcNeAt.int_list a t0 h hu
    | dic hl hs h hc hd => simp only [isDicF, hs] at ny; cases ny
    | scr => simp only [eqN] at e; cases e
    | exn => simp only [eqN] at e; cases e
  | str a t0 => cases ky with
    | non => simp only [eqN] at e; cases e; exact RcNeAt.str_none a t0
    | bl c => simp only [eqN] at e; cases e; exact RcNeAt.str_bool a t0 c
    | int c t => simp only [eqN] at e; cases e; exact RcNeAt.str_int a t0 c t
    | str c t => simp only [eqN] at e; cases e; exact RcNeAt.str_str a t0 c t
    | tup h hq r rl => simp only [eqN] at e; cases e; exact RcNeAt.str_tuple a t0 h hu
    | lst hl hs h hq r rl => simp only [eqN, hs] at e; cases e; exact RcNeAt.str_list a t0 h hu
    | dic hl hs h hc hd => simp only [isDicF, hs] at ny; cases ny
    | scr => simp only [eqN] at e; cases e
    | exn => simp only [eqN] at e; cases e
  | tup h0 hq0 r0 rl0 => cases ky with
    | non => simp only [eqN] at e; cases e; exact RcNeAt.tuple_none h0 hu
    | bl c => simp only [eqN] at e; cases e; exact RcNeAt.tuple_bool c h0 hu
    | int c t => simp only [eqN] at e; cases e; exact RcNeAt.tuple_int c t h0 hu
    | str c t => simp only [eqN] at e; cases e; exact RcNeAt.tuple_str c t h0 hu
    | tup h hq r rl =>
      simp only [eqN] at e
      obtain ⟨c, e1, e2⟩ := Option.map_eq_some_iff.mp e
      obtain ⟨g, hg, hi⟩ := eq_items I rs (A := A) (by omega) r0 r rl0 rl e1
      have z := RcNeAt.tuples (A := A) h0 h hu hi
      rw [← hg] at z
      have l1 := r0.len.trans rl0.length
      have l2 := r.len.trans rl.length
      simp only [List.size_toArray] at z
      rw [← l1, ← l2, e2] at z
      exact z
    | lst hl hs h hq r rl => simp only [eqN, hs] at e; cases e; exact RcNeAt.tuple_list h0 h hu
    | dic hl hs h hc hd => simp only [isDicF, hs] at ny; cases ny
    | scr => simp only [eqN] at e; cases e
    | exn => simp only [eqN] at e; cases e
  | lst hl0 hs0 h0 hq0 r0 rl0 => cases ky with
    | non => simp only [eqN, hs0] at e; cases e; exact RcNeAt.list_none h0 hu
    | bl c => simp only [eqN, hs0] at e; cases e; exact RcNeAt.list_bool c h0 hu
    | int c t => simp only [eqN, hs0] at e; cases e; exact RcNeAt.list_int c t h0 hu
    | str c t => simp only [eqN, hs0] at e; cases e; exact RcNeAt.list_str c t h0 hu
    | tup h hq r rl => simp only [eqN, hs0] at e; cases e; exact RcNeAt.list_tuple h0 h hu
    | lst hl hs h hq r rl =>
      simp only [eqN, hs0, hs] at e
      have l1 := r0.len.trans rl0.length
      have l2 := r.len.trans rl.length
      split at e
      · rename_i hlen
        obtain ⟨g, hg, hi⟩ := eq_items I rs (A := A) (by omega) r0 r rl0 rl e
        have hsz : (_ : Nat) = _ := l1.symm.trans (hlen.trans l2)
        have z := RcNeAt.lists (A := A) h0 h (by simpa using hsz) hu hi
        simp only [List.size_toArray] at z hg
        rw [← hsz, Nat.min_self] at hg
        rw [← hg] at z
        exact z
      · rename_i hlen
        cases e
        exact RcNeAt.lists_lengths (A := A) h0 h (by simpa [l1, l2] using hlen) hu
    | dic hl hs h hc hd => simp only [isDicF, hs] at ny; cases ny
    | scr => simp only [eqN, hs0] at e; cases e
    | exn => simp only [eqN, hs0] at e; cases e
end
section
variable {X : Cx}
theorem os_eq (hu : X.A.units + 64 < cLine) : OpS X (compareOp .Eq) (opB eqF) := op_eqF hu
theorem os_ne (hu : X.A.units + 64 < cLine) : OpS X (compareOp .NotEq) (opB neF) := by
  intro pins s σ H x y v u Q I rx ry h
  obtain ⟨m, st, dx, dy, rs, r1, r2, h⟩ := h
  by_cases hn : (isDicF dx st || isDicF dy st) = true
  · simp only [opB, neF, hn, if_true] at h; exact h.elim
  · have h1 : isDicF dx st = false := by cases q : isDicF dx st <;> simp_all
    have h2 : isDicF dy st = false := by cases q : isDicF dy st <;> simp_all
    cases q : eqN EQN st dx dy with
    | none => simp only [opB, neF, hn, q] at h; exact h.elim
    | some b =>
      simp only [opB, neF, hn, q, Option.map_some] at h
      have z := neN_at I rs (n := 59) (A := X.A) (by omega) r1 r2 rx ry h1 h2 q
      exact z X.prog X.w X.xe _ ⟨.bl (!b), H, I, rfl, h m H _ Ext.refl rs (by simp [RV])⟩

/-! ### in -/
def anyEq (st : Store) (x : D) : List D → Option Bool
  | [] => some false
  | y :: ys => match eqN EQN st y x, anyEq st x ys with
    | some b, some c => some (b || c)
    | _, _ => none
def strIn (a b : Str) : Bool := if a.length = 1 then decide (a.cps.getD 0 0 ∈ b.cps.toList) else !(Builtin.Str.occurrences b a 0 b.length 1).isEmpty
def inF (x y : D) (st : Store) : Option Bool := match y with
  | .tup ds => anyEq st x ds
  | .ref l => (match st[l]? with | some (.lst ds) => anyEq st x ds | _ => none)
  | .str b => (match x with | .str a => some (strIn a b) | _ => none)
  | _ => none
theorem eqZ_det {f : D → D → Option Bool} : ∀ {xs xs' ys : List D} {b b' : Bool}, xs.length = xs'.length → (∀ (i : Nat) (x x' y : D) (c c' : Bool), xs[i]? = some x → xs'[i]? = some x' → f x y = some c → f x' y = some c' → c = c') → eqZ f xs ys = some b → eqZ f xs' ys = some b' → b = b'
  | [], [], ys, b, b', _, _, e, e' => by simp only [eqZ] at e e'; cases e; cases e'; rfl
  | [], _ :: _, _, _, _, h, _, _, _ => by cases h
  | _ :: _, [], _, _, _, h, _, _, _ => by cases h
  | x :: xs, x' :: xs', [], b, b', _, _, e, e' => by simp only [eqZ] at e e'; cases e; cases e'; rfl
  | x :: xs, x' :: xs', y :: ys, b, b', hl, h, e, e' => by
    simp only [eqZ] at e e'
    split at e
    · rename_i b1 b2 e1 e2
      split at e'
      · rename_i c1 c2 e3 e4
        cases e; cases e'
        rw [h 0 x x' y b1 c1 rfl rfl e1 e3, eqZ_det (by simpa using hl) (fun i x x' y c c' q1 q2 => h (i + 1) x x' y c c' (by simpa using q1) (by simpa using q2)) e2 e4]
      · cases e'
    · cases e
theorem eqN_det {pins : List (Addr × Obj)} {σ : L2.St} {H : Hp} {s : Shared} {m : List Addr} {st : Store} (I : Inv X pins σ H s) (rs : RSt X.K m H st) : ∀ (n : Nat) {x x' y : D} {v : V} {u : Value} {b b' : Bool}, RV X.K m H x v → RV X.K m H x' v → RelV v u → eqN n st x y = some b → eqN n st x' y = some b' → b = b'
  | 0, _, _, _, _, _, _, _, _, _, _, e, _ => by cases e
  | n + 1, x, x', y, v, u, b, b', hx, hx', r, e, e' => by
    have kx := kd_of I rs hx r
    have kx' := kd_of I rs hx' r
    cases kx with
    | scr => simp only [eqN] at e; cases e
    | exn => simp only [eqN] at e; cases e
    | non => cases kx' with
      | non => rw [e] at e'; exact Option.some.inj e'
      | scr => simp only [eqN] at e'; cases e'
      | exn => simp only [eqN] at e'; cases e'
    | bl a => cases kx' with
      | bl => rw [e] at e'; exact Option.some.inj e'
      | scr => simp only [eqN] at e'; cases e'
      | exn => simp only [eqN] at e'; cases e'
    | int a t => cases kx' with
      | int => rw [e] at e'; exact Option.some.inj e'
      | scr => simp only [eqN] at e'; cases e'
      | exn => simp only [eqN] at e'; cases e'
    | str a t => cases kx' with
      | str => rw [e] at e'; exact Option.some.inj e'
      | scr => simp only [eqN] at e'; cases e'
      | exn => simp only [eqN] at e'; cases e'
    | tup h hq rv rl => cases kx' with
      | scr => simp only [eqN] at e'; cases e'
      | exn => simp only [eqN] at e'; cases e'
      | lst hl hs h' hq' rv' rl' => exact (not_both I h h').elim
      | dic hl hs h' hc hd =>
        obtain ⟨o, e', c, _⟩ := h
        rw [e'] at h'; cases h'
        rw [c] at hc; exact absurd hc (by simp)
      | tup h' hq' rv' rl' =>
        have := tup_inj I hq hq'
        subst this
        have hl := rv.len.trans rv'.len.symm
        cases y with
        | tup ys =>
          simp only [eqN] at e e'
          obtain ⟨c, e1, rfl⟩ := Option.map_eq_some_iff.mp e
          obtain ⟨c', e1', rfl⟩ := Option.map_eq_some_iff.mp e'
          have : c = c' := eqZ_det hl (fun i x x' y c c' h1 h2 q1 q2 => by
            obtain ⟨v1, p1, p2⟩ := rv.get h1
            obtain ⟨v2, p3, p4⟩ := rv'.get h2
            rw [p1] at p3; cases p3
            obtain ⟨u1, _, p5⟩ := rl.get p1
            exact eqN_det I rs n p2 p4 p5 q1 q2) e1 e1'
          rw [this, hl]
        | ref k =>
          simp only [eqN] at e e'
          rw [e] at e'; exact Option.some.inj e'
        | _ => simp only [eqN] at e e'; first | (rw [e] at e'; exact Option.some.inj e') | cases e
    | lst hl hs h hq rv rl => cases kx' with
      | tup h' hq' rv' rl' => exact (not_both I h' h).elim
      | lst hl2 hs2 h' hq' rv' rl' =>
        have := nodupA rs.nd hl hl2
        subst this
        rw [e] at e'; exact Option.some.inj e'
      | dic hl2 hs2 h' hc hd =>
        have := nodupA rs.nd hl hl2
        subst this
        rw [hs] at hs2; cases hs2
      | scr => simp only [eqN] at e'; cases e'
      | exn => simp only [eqN] at e'; cases e'
    | dic hl hs h hc hd => cases kx' with
      | tup h' hq' rv' rl' =>
        obtain ⟨o, e1, c, _⟩ := h'
        rw [e1] at h; cases h
        rw [c] at hc; exact absurd hc (by simp)
      | lst hl2 hs2 h' hq' rv' rl' =>
        have := nodupA rs.nd hl hl2
        subst this
        rw [hs] at hs2; cases hs2
      | dic hl2 hs2 h' hc' hd' =>
        have := nodupA rs.nd hl hl2
        subst this
        rw [e] at e'; exact Option.some.inj e'
      | scr => simp only [eqN] at e'; cases e'
      | exn => simp only [eqN] at e'; cases e'
open Classical in
theorem anyEq_at {pins : List (Addr × Obj)} {σ : L2.St} {H : Hp} {s : Shared} {m : List Addr} {st : Store} (I : Inv X pins σ H s) (rs : RSt X.K m H st) (hu : X.A.units + 64 < cLine) {x : D} {vx : V} {u : Value} (hx : RV X.K m H x vx) (ru : RelV vx u)
    {ds : List D} {vs : List V} {is : List Value} {b : Bool} (r : RVs X.K m H ds vs) (v : Vals vs is) (e : anyEq st x ds = some b) : ∃ f : Value → Bool, (∀ y ∈ is, EqAt X.A.in1 s y u (f y)) ∧ b = is.any f := by
  let f : Value → Bool := fun y => decide (∃ d, ∃ w, RV X.K m H d w ∧ RelV w y ∧ eqN EQN st d x = some true)
  have one : ∀ {d : D} {w : V} {y : Value} {c : Bool}, RV X.K m H d w → RelV w y → eqN EQN st d x = some c → f y = c := by
    intro d w y c h1 h2 h3
    cases c with
    | true => exact decide_eq_true ⟨d, w, h1, h2, h3⟩
    | false =>
      refine decide_eq_false ?_
      rintro ⟨d', w', h1', h2', h3'⟩
      have := h2.inj h2'
      subst this
      exact absurd (eqN_det I rs EQN h1 h1' h2 h3 h3') (by simp)
  refine ⟨f, ?_, ?_⟩
  · intro y hy
    have : ∀ (ds : List D) (vs : List V) (is : List Value) (b : Bool), RVs X.K m H ds vs → Vals vs is → anyEq st x ds = some b → y ∈ is → EqAt X.A.in1 s y u (f y) := by
      intro ds
      induction ds with
      | nil => intro vs is b r v e hy; simp only [RVs] at r; subst r; cases v; cases hy
      | cons d ds ih =>
        intro vs is b r v e hy
        simp only [RVs] at r
        obtain ⟨v0, vr, rfl, r0, r⟩ := r
        cases v with
        | cons rv0 rvr =>
          simp only [anyEq] at e
          split at e
          · rename_i b1 c e1 e2
            rcases List.mem_cons.mp hy with rfl | hy
            · rw [one r0 rv0 e1]
              exact (eqN_at I rs EQN (A := X.A.in1) (by unfold EQN; show X.A.units + 1 + 60 < cLine; omega) r0 hx rv0 ru e1).2
            · exact ih _ _ _ r rvr e2 hy
          · cases e
    exact this ds vs is b r v e hy
  · have : ∀ (ds : List D) (vs : List V) (is : List Value) (b : Bool), RVs X.K m H ds vs → Vals vs is → anyEq st x ds = some b → b = is.any f := by
      intro ds
      induction ds with
      | nil => intro vs is b r v e; simp only [RVs] at r; subst r; cases v; simp only [anyEq] at e; cases e; rfl
      | cons d ds ih =>
        intro vs is b r v e
        simp only [RVs] at r
        obtain ⟨v0, vr, rfl, r0, r⟩ := r
        cases v with
        | cons rv0 rvr =>
          simp only [anyEq] at e
          split at e
          · rename_i b1 c e1 e2
            cases e
            rw [List.any_cons, one r0 rv0 e1, ← ih _ _ _ r rvr e2]
          · cases e
    exact this ds vs is b r v e
theorem str_in_at {pins : List (Addr × Obj)} {σ : L2.St} {H : Hp} {s : Shared} {x y : V} {v u : Value} {Q : VK} {a b : Str} (I : Inv X pins σ H s) (rx : RelV x v) (ry : RelV y u) (hx : x = .str a) (hy : y = .str b) (q : Q (.bl (strIn a b)) H) : wpAny (model X.prog X.w) X.A (compareOp .In v u) (EP X pins σ Q) X.xe s := by
  subst hx hy
  unfold strIn at q
  split at q
  · rename_i hl
    have e : a = ⟨#[a.cps.getD 0 0]⟩ := by
      apply Str.ext'
      have hl' : a.cps.size = 1 := hl
      obtain ⟨c, hc⟩ := Array.size_eq_one_iff.mp hl'
      rw [hc]; rfl
    exact op_in_sign pins s σ H _ _ v u Q I rx ry ⟨a.cps.getD 0 0, b, by rw [← e], rfl, q⟩
  · exact op_in_str pins s σ H _ _ v u Q I rx ry ⟨a, b, rfl, rfl, q⟩
theorem str_notIn_at {pins : List (Addr × Obj)} {σ : L2.St} {H : Hp} {s : Shared} {x y : V} {v u : Value} {Q : VK} {a b : Str} (I : Inv X pins σ H s) (rx : RelV x v) (ry : RelV y u) (hx : x = .str a) (hy : y = .str b) (q : Q (.bl (!strIn a b)) H) : wpAny (model X.prog X.w) X.A (compareOp .NotIn v u) (EP X pins σ Q) X.xe s := by
  subst hx hy
  unfold strIn at q
  split at q
  · rename_i hl
    have e : a = ⟨#[a.cps.getD 0 0]⟩ := by
      apply Str.ext'
      have hl' : a.cps.size = 1 := hl
      obtain ⟨c, hc⟩ := Array.size_eq_one_iff.mp hl'
      rw [hc]; rfl
    exact op_notIn_sign pins s σ H _ _ v u Q I rx ry ⟨a.cps.getD 0 0, b, by rw [← e], rfl, q⟩
  · exact op_notIn_str pins s σ H _ _ v u Q I rx ry ⟨a, b, rfl, rfl, q⟩
theorem os_in (hu : X.A.units + 64 < cLine) : OpS X (compareOp .In) (opB inF) := by
  intro pins s σ H x y v u Q I rx ry h
  obtain ⟨m, st, dx, dy, rs, r1, r2, h⟩ := h
  cases q : inF dx dy st with
  | none => simp only [opB, q] at h; exact h.elim
  | some b =>
    simp only [opB, q, Option.map_some] at h
    have fin := h m H (.bl b) Ext.refl rs (by simp [RV])
    cases dy with
    | tup ds =>
      simp only [RV] at r2
      obtain ⟨a, vs, rfl, ha, r2⟩ := r2
      cases ry
      obtain ⟨its, rl, pl, hz⟩ := I.tuple ha
      obtain ⟨f, h1, h2⟩ := anyEq_at I rs hu r1 rx r2 rl q
      exact in_tupleAt f pl (fun y hy => h1 y (by simpa using hy)) ⟨.bl _, H, I, rfl, by rw [List.any_toArray, ← h2]; exact fin⟩
    | ref l =>
      simp only [RV] at r2
      obtain ⟨a, rfl, ha⟩ := r2
      cases ry
      simp only [inF] at q
      split at q
      · rename_i ds hs
        obtain ⟨vs, e1, e2⟩ := rs.lst ha hs
        obtain ⟨its, rl, pl, hz⟩ := I.list (SqL.of e1)
        obtain ⟨f, h1, h2⟩ := anyEq_at I rs hu r1 rx e2 rl q
        exact in_listAt f pl.isList (fun y hy => h1 y (by simpa using hy)) ⟨.bl _, H, I, rfl, by rw [List.any_toArray, ← h2]; exact fin⟩
      · cases q
    | str z =>
      cases dx with
      | str a =>
        simp only [RV] at r1 r2
        simp only [inF] at q
        cases q
        exact str_in_at I rx ry r1 r2 fin
      | _ => cases q
    | _ => cases q
theorem os_notIn (hu : X.A.units + 64 < cLine) : OpS X (compareOp .NotIn) (opB fun x y st => (inF x y st).map (!·)) := by
  intro pins s σ H x y v u Q I rx ry h
  obtain ⟨m, st, dx, dy, rs, r1, r2, h⟩ := h
  cases q : inF dx dy st with
  | none => simp only [opB, q] at h; exact h.elim
  | some b =>
    simp only [opB, q, Option.map_some] at h
    have fin := h m H (.bl (!b)) Ext.refl rs (by simp [RV])
    cases dy with
    | tup ds =>
      simp only [RV] at r2
      obtain ⟨a, vs, rfl, ha, r2⟩ := r2
      cases ry
      obtain ⟨its, rl, pl, hz⟩ := I.tuple ha
      obtain ⟨f, h1, h2⟩ := anyEq_at I rs hu r1 rx r2 rl q
      exact notIn_tupleAt f pl (fun y hy => h1 y (by simpa using hy)) ⟨.bl _, H, I, rfl, by rw [List.any_toArray, ← h2]; exact fin⟩
    | ref l =>
      simp only [RV] at r2
      obtain ⟨a, rfl, ha⟩ := r2
      cases ry
      simp only [inF] at q
      split at q
      · rename_i ds hs
        obtain ⟨vs, e1, e2⟩ := rs.lst ha hs
        obtain ⟨its, rl, pl, hz⟩ := I.list (SqL.of e1)
        obtain ⟨f, h1, h2⟩ := anyEq_at I rs hu r1 rx e2 rl q
        exact notIn_listAt f pl.isList (fun y hy => h1 y (by simpa using hy)) ⟨.bl _, H, I, rfl, by rw [List.any_toArray, ← h2]; exact fin⟩
      · cases q
    | str z =>
      cases dx with
      | str a =>
        simp only [RV] at r1 r2
        simp only [inF] at q
        cases q
        exact str_notIn_at I rx ry r1 r2 fin
      | _ => cases q
    | _ => cases q
end
end Mi
set_option Elab.async false
set_option linter.all false
set_option maxRecDepth 100000
set_option maxHeartbeats 4000000
/-! Mi9: calls of what is built in. -/
namespace Mi
open PySem PySem.Spec L2
open PyProof.Rows hiding St
section
variable {K : PySem.W.Frag} {m : List Addr} {H : Hp} {st : Store}
theorem rvs_nil {vs : List V} (h : RVs K m H [] vs) : vs = [] := by simpa only [RVs] using h
theorem rvs_1 {d : D} {vs : List V} (h : RVs K m H [d] vs) : ∃ v, vs = [v] ∧ RV K m H d v := by
  simp only [RVs] at h
  obtain ⟨v, vr, rfl, r, rfl⟩ := h
  exact ⟨v, rfl, r⟩
theorem rvs_2 {d e : D} {vs : List V} (h : RVs K m H [d, e] vs) : ∃ v w, vs = [v, w] ∧ RV K m H d v ∧ RV K m H e w := by
  simp only [RVs] at h
  obtain ⟨v, vr, rfl, r, w, wr, rfl, r2, rfl⟩ := h
  exact ⟨v, w, rfl, r, r2⟩
theorem RVs.strs : ∀ {zs : List Str} {vs : List V}, RVs K m H (zs.map D.str) vs ↔ vs = zs.map V.str
  | [], vs => by simp [RVs]
  | z :: zs, vs => by
    simp only [List.map_cons, RVs, RV]
    constructor
    · rintro ⟨v, vr, rfl, rfl, h⟩; rw [RVs.strs.mp h]
    · rintro rfl; exact ⟨_, _, rfl, rfl, RVs.strs.mpr rfl⟩
theorem RVs.bls : ∀ {zs : List Bool} {vs : List V}, RVs K m H (zs.map D.bl) vs ↔ vs = zs.map V.bl
  | [], vs => by simp [RVs]
  | z :: zs, vs => by
    simp only [List.map_cons, RVs, RV]
    constructor
    · rintro ⟨v, vr, rfl, rfl, h⟩; rw [RVs.bls.mp h]
    · rintro rfl; exact ⟨_, _, rfl, rfl, RVs.bls.mpr rfl⟩
end
/-- all of them texts -/
def strsOf : List D → Option (List Str)
  | [] => some []
  | .str z :: ds => (strsOf ds).map (z :: ·)
  | _ :: _ => none
theorem strsOf_eq : ∀ {ds : List D} {zs : List Str}, strsOf ds = some zs → ds = zs.map D.str
  | [], zs, h => by cases h; rfl
  | d :: ds, zs, h => by
    cases d with
    | str z =>
      simp only [strsOf] at h
      obtain ⟨zr, e, rfl⟩ := Option.map_eq_some_iff.mp h
      rw [strsOf_eq e]; rfl
    | _ => cases h
theorem strsOf_map : ∀ (zs : List Str), strsOf (zs.map D.str) = some zs
  | [] => rfl
  | z :: zs => by simp only [List.map_cons, strsOf, strsOf_map zs, Option.map_some]
def blsOf : List D → Option (List Bool)
  | [] => some []
  | .bl z :: ds => (blsOf ds).map (z :: ·)
  | _ :: _ => none
theorem blsOf_eq : ∀ {ds : List D} {zs : List Bool}, blsOf ds = some zs → ds = zs.map D.bl
  | [], zs, h => by cases h; rfl
  | d :: ds, zs, h => by
    cases d with
    | bl z =>
      simp only [blsOf] at h
      obtain ⟨zr, e, rfl⟩ := Option.map_eq_some_iff.mp h
      rw [blsOf_eq e]; rfl
    | _ => cases h
theorem blsOf_map : ∀ (zs : List Bool), blsOf (zs.map D.bl) = some zs
  | [] => rfl
  | z :: zs => by simp only [List.map_cons, blsOf, blsOf_map zs, Option.map_some]
abbrev CF := List D → Store → Option (D × Store)
abbrev MF := D → List D → Store → Option (D × Store)
def lenF : CF := fun xs st => match xs with
  | [.str z] => if z.length ≤ LIM then some (.int z.length, st) else none
  | [.tup ds] => some (.int ds.length, st)
  | [.scr ns] => some (.int ns.length, st)
  | [.ref l] => match st[l]? with
    | some (.lst ds) => some (.int ds.length, st)
    | some (.dic kvs) => some (.int kvs.length, st)
    | none => none
  | _ => none
def listF : CF := fun xs st => match xs with
  | [.tup ds] => alloc (.lst ds) st
  | [.scr ns] => alloc (.lst (ns.map .int)) st
  | [.ref l] => match st[l]? with
    | some (.lst ds) => alloc (.lst ds) st
    | _ => none
  | _ => none
def tupleF : CF := fun xs st => match xs with
  | [.tup ds] => some (.tup ds, st)
  | [.ref l] => match st[l]? with
    | some (.lst ds) => some (.tup ds, st)
    | _ => none
  | _ => none
def strF : CF := fun xs st => match xs with
  | [.int i] => if i.natAbs.log2 < 1920 then some (.str (toString i), st) else none
  | _ => none
def intF : CF := fun xs st => match xs with
  | [.str z] => if z.length ≤ 640 then (PySem.intText? z).map fun n => (.int n, st) else none
  | _ => none
def maxF : CF := fun xs st => match xs with
  | [.int i, .int j] => some (.int (if j > i then j else i), st)
  | _ => none
def minF : CF := fun xs st => match xs with
  | [.int i, .int j] => some (.int (if j < i then j else i), st)
  | _ => none
def allF : CF := fun xs st => match xs with
  | [.ref l] => match st[l]? with
    | some (.lst ds) => (blsOf ds).map fun bs => (.bl (bs.all id), st)
    | _ => none
  | _ => none
def anyF : CF := fun xs st => match xs with
  | [.ref l] => match st[l]? with
    | some (.lst ds) => (blsOf ds).map fun bs => (.bl (bs.any id), st)
    | _ => none
  | _ => none
def appF : MF := fun x xs st => match x, xs with
  | .ref l, [d] => match st[l]? with
    | some (.lst ds) => if ds.length < LIM then some (.non, st.set l (.lst (ds ++ [d]))) else none
    | _ => none
  | _, _ => none
def popF : MF := fun x xs st => match x, xs with
  | .ref l, [] => match st[l]? with
    | some (.lst ds) => ds.getLast?.map fun d => (d, st.set l (.lst ds.dropLast))
    | _ => none
  | _, _ => none
def joinF : MF := fun x xs st => match x, xs with
  | .str z, [.ref l] => match st[l]? with
    | some (.lst ds) => (strsOf ds).bind fun ys => if (ys.map (·.length)).sum + ys.length * z.length ≤ LIM then some (.str (Txt.join z ys), st) else none
    | _ => none
  | .str z, [.tup ds] => (strsOf ds).bind fun ys => if (ys.map (·.length)).sum + ys.length * z.length ≤ LIM then some (.str (Txt.join z ys), st) else none
  | _, _ => none
def splitF : MF := fun x xs st => match x, xs with
  | .str a, [.str b] => if (b.length == 0) = false ∧ a.length + 2 ≤ LIM then alloc (.lst ((Txt.split a b).map .str)) st else none
  | _, _ => none
def upperF : MF := fun x xs st => match x, xs with
  | .str a, [] => if a.length ≤ 5592405 then some (.str (Txt.upper a), st) else none
  | _, _ => none
def find3F : MF := fun x xs st => match x, xs with
  | .str a, [.str b, .int i] => some (.int (Txt.find3 a b i), st)
  | _, _ => none
section
variable {X : Cx}
theorem cs_len : CallS X (.builtin "len") lenF := by
  intro pins s σ H xs us Q I r q
  obtain ⟨m, st, ds, rs, r0, q⟩ := q
  match ds, q with
  | [.str z], q =>
    obtain ⟨v, rfl, r1⟩ := rvs_1 r0
    simp only [RV] at r1
    subst r1
    simp only [lenF] at q
    split at q
    · rename_i hz
      exact call_len pins s σ H _ us Q I r ⟨_, _, rfl, ⟨ofLim hz, rfl⟩, q m H _ Ext.refl rs (by simp [RV])⟩
    · exact q.elim
  | [.tup ds], q =>
    obtain ⟨v, rfl, r1⟩ := rvs_1 r0
    simp only [RV] at r1
    obtain ⟨p, vs, rfl, h1, h2⟩ := r1
    exact call_len pins s σ H _ us Q I r ⟨_, _, rfl, .inr ⟨vs, h1, rfl⟩, q m H _ Ext.refl rs (by simp [RV, h2.len])⟩
  | [.scr ns], q =>
    obtain ⟨v, rfl, r1⟩ := rvs_1 r0
    simp only [RV] at r1
    obtain ⟨p, rfl, h1⟩ := r1
    exact call_len pins s σ H _ us Q I r ⟨_, _, rfl, .inl ⟨_, h1.seq, rfl⟩, q m H _ Ext.refl rs (by simp [RV])⟩
  | [.ref l], q =>
    obtain ⟨v, rfl, r1⟩ := rvs_1 r0
    simp only [RV] at r1
    obtain ⟨p, rfl, h1⟩ := r1
    simp only [lenF] at q
    split at q
    · rename_i ds ho
      obtain ⟨vs, e1, e2⟩ := rs.lst h1 ho
      exact call_len pins s σ H _ us Q I r ⟨_, _, rfl, .inl ⟨_, SqL.of e1, rfl⟩, q m H _ Ext.refl rs (by simp [RV, e2.len])⟩
    · rename_i kvs ho
      obtain ⟨ws, e1, e2⟩ := rs.dic h1 ho
      exact call_lenD pins s σ H _ us Q I r ⟨_, _, rfl, e1, q m H _ Ext.refl rs (by simp [RV, e2.length])⟩
    · exact q.elim
theorem cs_list : CallS X (.type "list") listF := by
  intro pins s σ H xs us Q I r q
  obtain ⟨m, st, ds, rs, r0, q⟩ := q
  match ds, q with
  | [.tup ds], q =>
    obtain ⟨v, rfl, r1⟩ := rvs_1 r0
    simp only [RV] at r1
    obtain ⟨p, vs, rfl, h1, h2⟩ := r1
    exact call_list_of pins s σ H _ us Q I r ⟨_, _, rfl, .inr h1, fun p hp => postO_lst rs q hp h2⟩
  | [.scr ns], q =>
    obtain ⟨v, rfl, r1⟩ := rvs_1 r0
    simp only [RV] at r1
    obtain ⟨p, rfl, h1⟩ := r1
    exact call_list_of pins s σ H _ us Q I r ⟨_, _, rfl, .inl h1.seq, fun p hp => postO_lst rs q hp (RVs.ints.mpr rfl)⟩
  | [.ref l], q =>
    obtain ⟨v, rfl, r1⟩ := rvs_1 r0
    simp only [RV] at r1
    obtain ⟨p, rfl, h1⟩ := r1
    simp only [listF] at q
    split at q
    · rename_i ds ho
      obtain ⟨vs, e1, e2⟩ := rs.lst h1 ho
      exact call_list_of pins s σ H _ us Q I r ⟨_, _, rfl, .inl (SqL.of e1), fun p hp => postO_lst rs q hp e2⟩
    · exact q.elim
theorem cs_tuple : CallS X (.type "tuple") tupleF := by
  intro pins s σ H xs us Q I r q
  obtain ⟨m, st, ds, rs, r0, q⟩ := q
  match ds, q with
  | [.tup ds], q =>
    obtain ⟨v, rfl, r1⟩ := rvs_1 r0
    have r1' := r1
    simp only [RV] at r1
    obtain ⟨p, vs, rfl, h1, h2⟩ := r1
    exact call_tuple_of pins s σ H _ us Q I r ⟨_, _, rfl, .inr ⟨h1, q m H _ Ext.refl rs r1'⟩⟩
  | [.ref l], q =>
    obtain ⟨v, rfl, r1⟩ := rvs_1 r0
    simp only [RV] at r1
    obtain ⟨p, rfl, h1⟩ := r1
    simp only [tupleF] at q
    split at q
    · rename_i ds ho
      obtain ⟨vs, e1, e2⟩ := rs.lst h1 ho
      exact call_tuple_of pins s σ H _ us Q I r ⟨_, _, rfl, .inl ⟨SqL.of e1, fun p hp => postO_tup rs q hp e2⟩⟩
    · exact q.elim
theorem cs_str : CallS X (.type "str") strF := by
  intro pins s σ H xs us Q I r q
  obtain ⟨m, st, ds, rs, r0, q⟩ := q
  match ds, q with
  | [.int i], q =>
    obtain ⟨v, rfl, r1⟩ := rvs_1 r0
    simp only [RV] at r1
    subst r1
    simp only [strF] at q
    split at q
    · rename_i hz
      exact call_str_int pins s σ H _ us Q I r ⟨_, rfl, hz, q m H _ Ext.refl rs (by simp [RV])⟩
    · exact q.elim
theorem cs_int : CallS X (.type "int") intF := by
  intro pins s σ H xs us Q I r q
  obtain ⟨m, st, ds, rs, r0, q⟩ := q
  match ds, q with
  | [.str z], q =>
    obtain ⟨v, rfl, r1⟩ := rvs_1 r0
    simp only [RV] at r1
    subst r1
    simp only [intF] at q
    split at q
    · rename_i hz
      cases e : PySem.intText? z with
      | none => rw [e] at q; exact q.elim
      | some n =>
        rw [e] at q
        exact call_int_str pins s σ H _ us Q I r ⟨_, n, rfl, e, hz, q m H _ Ext.refl rs (by simp [RV])⟩
    · exact q.elim
theorem cs_max (hc : X.calm = true) : CallS X (.builtin "max") maxF := by
  intro pins s σ H xs us Q I r q
  obtain ⟨m, st, ds, rs, r0, q⟩ := q
  match ds, q with
  | [.int i, .int j], q =>
    obtain ⟨v, w, rfl, r1, r2⟩ := rvs_2 r0
    simp only [RV] at r1 r2
    subst r1; subst r2
    exact call_max2 hc pins s σ H _ us Q I r ⟨_, _, rfl, q m H _ Ext.refl rs (by simp [RV])⟩
theorem cs_min (hc : X.calm = true) : CallS X (.builtin "min") minF := by
  intro pins s σ H xs us Q I r q
  obtain ⟨m, st, ds, rs, r0, q⟩ := q
  match ds, q with
  | [.int i, .int j], q =>
    obtain ⟨v, w, rfl, r1, r2⟩ := rvs_2 r0
    simp only [RV] at r1 r2
    subst r1; subst r2
    exact call_min2 hc pins s σ H _ us Q I r ⟨_, _, rfl, q m H _ Ext.refl rs (by simp [RV])⟩
theorem cs_all (hc : X.calm = true) : CallS X (.builtin "all") allF := by
  intro pins s σ H xs us Q I r q
  obtain ⟨m, st, ds, rs, r0, q⟩ := q
  match ds, q with
  | [.ref l], q =>
    obtain ⟨v, rfl, r1⟩ := rvs_1 r0
    simp only [RV] at r1
    obtain ⟨p, rfl, h1⟩ := r1
    simp only [allF] at q
    split at q
    · rename_i ds ho
      cases e : blsOf ds with
      | none => rw [e] at q; exact q.elim
      | some bs =>
        rw [e] at q
        have := blsOf_eq e
        subst this
        obtain ⟨vs, e1, e2⟩ := rs.lst h1 ho
        rw [RVs.bls] at e2
        subst e2
        exact cr_all hc pins s σ H _ us Q I r ⟨_, bs, rfl, SqL.of e1, q m H _ Ext.refl rs (by simp [RV])⟩
    · exact q.elim
theorem cs_any (hc : X.calm = true) : CallS X (.builtin "any") anyF := by
  intro pins s σ H xs us Q I r q
  obtain ⟨m, st, ds, rs, r0, q⟩ := q
  match ds, q with
  | [.ref l], q =>
    obtain ⟨v, rfl, r1⟩ := rvs_1 r0
    simp only [RV] at r1
    obtain ⟨p, rfl, h1⟩ := r1
    simp only [anyF] at q
    split at q
    · rename_i ds ho
      cases e : blsOf ds with
      | none => rw [e] at q; exact q.elim
      | some bs =>
        rw [e] at q
        have := blsOf_eq e
        subst this
        obtain ⟨vs, e1, e2⟩ := rs.lst h1 ho
        rw [RVs.bls] at e2
        subst e2
        exact cr_any hc pins s σ H _ us Q I r ⟨_, bs, rfl, SqL.of e1, q m H _ Ext.refl rs (by simp [RV])⟩
    · exact q.elim
theorem ms_append : MtS X "list.append" appF := by
  intro pins s σ H x xs v us Q I rx r q
  obtain ⟨m, st, dx, ds, rs, r1, r0, q⟩ := q
  match dx, ds, q with
  | .ref l, [d], q =>
    obtain ⟨w, rfl, r2⟩ := rvs_1 r0
    simp only [RV] at r1
    obtain ⟨p, rfl, h1⟩ := r1
    simp only [appF] at q
    split at q
    · rename_i ds ho
      split at q
      · rename_i hz
        obtain ⟨vs, e1, e2⟩ := rs.lst h1 ho
        have e0 : Ext0 m H m (upd H p (.lst (vs ++ [w]))) := ext0_over e1 tf_no_lst
        exact mt_append pins s σ H _ _ v us Q I rx r ⟨_, vs, w, rfl, rfl, e1, by rw [← e2.len, lim_eq]; exact hz, postO_write rs q h1 ⟨_, upd_same, (RVs.ext0 e0 _ e2).append (RVs.one (RV.ext0 e0 _ r2))⟩ (by simp [RV])⟩
      · exact q.elim
    · exact q.elim
theorem ms_pop : MtS X "list.pop" popF := by
  intro pins s σ H x xs v us Q I rx r q
  obtain ⟨m, st, dx, ds, rs, r1, r0, q⟩ := q
  match dx, ds, q with
  | .ref l, [], q =>
    have := rvs_nil r0
    subst this
    simp only [RV] at r1
    obtain ⟨p, rfl, h1⟩ := r1
    simp only [popF] at q
    split at q
    · rename_i ds ho
      cases e : ds.getLast? with
      | none => rw [e] at q; exact q.elim
      | some d =>
        rw [e] at q
        obtain ⟨vs, e1, e2⟩ := rs.lst h1 ho
        rw [List.getLast?_eq_getElem?] at e
        obtain ⟨w, e3, e4⟩ := e2.get e
        rw [e2.len] at e3
        have e0 : Ext0 m H m (upd H p (.lst vs.dropLast)) := ext0_over e1 tf_no_lst
        exact mt_pop pins s σ H _ _ v us Q I rx r ⟨_, vs, w, rfl, rfl, e1, e3, postO_write rs q h1 ⟨_, upd_same, (RVs.ext0 e0 _ e2).dropLast⟩ (RV.ext0 e0 _ e4)⟩
    · exact q.elim
theorem ms_join : MtS X "str.join" joinF := by
  intro pins s σ H x xs v us Q I rx r q
  obtain ⟨m, st, dx, ds, rs, r1, r0, q⟩ := q
  match dx, ds, q with
  | .str z, [.ref l], q =>
    obtain ⟨w, rfl, r2⟩ := rvs_1 r0
    simp only [RV] at r1 r2
    subst r1
    obtain ⟨p, rfl, h1⟩ := r2
    simp only [joinF] at q
    split at q
    · rename_i ds ho
      cases e : strsOf ds with
      | none => rw [e] at q; exact q.elim
      | some ys =>
        rw [e] at q
        simp only [Option.bind_some] at q
        split at q
        · rename_i hz
          have := strsOf_eq e
          subst this
          obtain ⟨vs, e1, e2⟩ := rs.lst h1 ho
          rw [RVs.strs] at e2
          subst e2
          exact mt_join pins s σ H _ _ v us Q I rx r ⟨z, p, ys, rfl, rfl, .inl (SqL.of e1), hz, q m H _ Ext.refl rs (by simp [RV])⟩
        · exact q.elim
    · exact q.elim
  | .str z, [.tup ds], q =>
    obtain ⟨w, rfl, r2⟩ := rvs_1 r0
    simp only [RV] at r1 r2
    subst r1
    obtain ⟨p, vs, rfl, h1, h2⟩ := r2
    simp only [joinF] at q
    cases e : strsOf ds with
    | none => rw [e] at q; exact q.elim
    | some ys =>
      rw [e] at q
      simp only [Option.bind_some] at q
      split at q
      · rename_i hz
        have := strsOf_eq e
        subst this
        rw [RVs.strs] at h2
        subst h2
        exact mt_join pins s σ H _ _ v us Q I rx r ⟨z, p, ys, rfl, rfl, .inr h1, hz, q m H _ Ext.refl rs (by simp [RV])⟩
      · exact q.elim
theorem ms_split : MtS X "str.split" splitF := by
  intro pins s σ H x xs v us Q I rx r q
  obtain ⟨m, st, dx, ds, rs, r1, r0, q⟩ := q
  match dx, ds, q with
  | .str a, [.str b], q =>
    obtain ⟨w, rfl, r2⟩ := rvs_1 r0
    simp only [RV] at r1 r2
    subst r1; subst r2
    simp only [splitF] at q
    split at q
    · rename_i hz
      exact mt_split pins s σ H _ _ v us Q I rx r ⟨a, b, rfl, rfl, hz.1, ofLim hz.2, fun p hp => postO_lst rs q hp (RVs.strs.mpr rfl)⟩
    · exact q.elim
theorem ms_upper : MtS X "str.upper" upperF := by
  intro pins s σ H x xs v us Q I rx r q
  obtain ⟨m, st, dx, ds, rs, r1, r0, q⟩ := q
  match dx, ds, q with
  | .str a, [], q =>
    have := rvs_nil r0
    subst this
    simp only [RV] at r1
    subst r1
    simp only [upperF] at q
    split at q
    · rename_i hz
      exact mt_upper pins s σ H _ _ v us Q I rx r ⟨a, rfl, rfl, hz, q m H _ Ext.refl rs (by simp [RV])⟩
    · exact q.elim
theorem ms_find3 : MtS X "str.find" find3F := by
  intro pins s σ H x xs v us Q I rx r q
  obtain ⟨m, st, dx, ds, rs, r1, r0, q⟩ := q
  match dx, ds, q with
  | .str a, [.str b, .int i], q =>
    obtain ⟨w, w2, rfl, r2, r3⟩ := rvs_2 r0
    simp only [RV] at r1 r2 r3
    subst r1; subst r2; subst r3
    exact mt_find3 pins s σ H _ _ v us Q I rx r ⟨a, b, i, rfl, rfl, q m H _ Ext.refl rs (by simp [RV])⟩
end
end Mi
set_option Elab.async false
set_option linter.all false
set_option maxRecDepth 100000
set_option maxHeartbeats 4000000
/-! Mi10: products, slices turned about, kinds, constants of the text. -/
namespace Mi
open PySem PySem.Spec L2
open PyProof.Rows hiding St

/-! ### products -/
section
variable {X : Cx}
theorem rep_str (n : Nat) (a : Array Nat) : (List.replicate n a).foldl (· ++ ·) #[] = (List.replicate n a.toList).flatten.toArray := by
  have key : ∀ (n : Nat) (b : Array Nat), (List.replicate n a).foldl (· ++ ·) b = b ++ (List.replicate n a.toList).flatten.toArray := by
    intro n
    induction n with
    | zero => intro b; simp
    | succ n ih =>
      intro b
      rw [List.replicate_succ, List.foldl_cons, ih, List.replicate_succ, List.flatten_cons]
      apply Array.ext'
      simp
  rw [key]
  apply Array.ext'
  simp
theorem tuple_mulA (l : Addr) (items : Array Value) (n : Nat) (dd : Option Addr) (sl : Array (Option Value)) (x : Int) (u : Tok) (c0 : (decide (x < -(2 ^ 63)) || decide (x ≥ 2 ^ 63)) = false) (c1 : (items.isEmpty || x == 1) = true) :
    Meets (Builtin.«tuple.__mul__» ⟨[.ref l, .int x u], []⟩) (fun _ R s => s.heap.get? l = some { cls := .type "tuple", dict := dd, data := .seq items n, slots := sl } ∧ R (.ok (.ret (Value.ref l))) s) :=
  .of_wp fun prog w A R s h => by
    obtain ⟨hp, g, d, tk, os⟩ := s
    obtain ⟨hl, h⟩ := h
    have f1 := AutoSeq1.idx_int
    wp_walk using PySem.AutoSeq1.wpAny_loadPart' hl
    repeat (first
      | (refine wpAny_ite_false (decide_eq_false (by rw [c0]; exact Bool.false_ne_true)) ?_; wp_walk using PySem.AutoSeq1.wpAny_loadPart' hl)
      | (refine wpAny_ite_true (decide_eq_true c1) ?_; wp_walk using PySem.AutoSeq1.wpAny_loadPart' hl))
    exact ⟨_, rfl, h⟩
theorem tuple_mul0 (l : Addr) (items : Array Value) (n : Nat) (dd : Option Addr) (sl : Array (Option Value)) (u : Tok) (c1 : (items.isEmpty || (0 : Int) == 1) = false) :
    Meets (Builtin.«tuple.__mul__» ⟨[.ref l, .int 0 u], []⟩) (fun _ R s => s.heap.get? l = some { cls := .type "tuple", dict := dd, data := .seq items n, slots := sl } ∧
      R (.ok (.ret (Value.ref s.heap.objs.size))) { s with heap := s.heap.push { cls := Value.type "tuple", data := Data.seq #[] }, toks := s.toks }) :=
  .of_wp fun prog w A R s h => by
    obtain ⟨hp, g, d, tk, os⟩ := s
    obtain ⟨hl, h⟩ := h
    have f1 := AutoSeq1.idx_int
    wp_walk using PySem.AutoSeq1.wpAny_loadPart' hl
    repeat (first
      | (refine wpAny_ite_false (decide_eq_false (by rw [c1]; exact Bool.false_ne_true)) ?_; wp_walk using PySem.AutoSeq1.wpAny_loadPart' hl)
      | (refine wpAny_ite_true (decide_eq_true (by simp)) ?_; wp_walk using PySem.AutoSeq1.wpAny_loadPart' hl))
    exact ⟨_, rfl, h⟩
theorem op_repT1 : OpR X (binaryOp .Mult) (fun x y H Q => ∃ l k xs, x = .ref l ∧ y = .int k ∧ SqT X.K H l xs ∧ (xs = [] ∨ k = 1) ∧ -(2 ^ 63) ≤ k ∧ k < 2 ^ 63 ∧ Q (.ref l) H) := by
  intro pins s σ H x y v u Q I rx ry h
  obtain ⟨l, k, xs, rfl, rfl, hT, hc1, h1, h2, q⟩ := h
  cases rx
  obtain ⟨t, rfl⟩ := ry
  obtain ⟨its, r, ⟨⟨cls, dd, data, sl⟩, ho, hc, n, hd⟩, hs⟩ := I.tuple hT
  simp only at hc hd
  subst hc hd
  have c0 : (decide (k < -(2 ^ 63)) || decide (k ≥ 2 ^ 63)) = false := by
    rw [decide_eq_false (by omega), decide_eq_false (by omega)] <;> rfl
  have c1 : (its.toArray.isEmpty || k == 1) = true := by
    rcases hc1 with rfl | rfl
    · cases r; rfl
    · simp
  exact wpAny_binaryOp_repeat_ref (T := "tuple") (U := "int") (by decide) ⟨_, ho, rfl⟩ (fun s' => typeIs_int s' k t) noFill_tuple_mul PySem.F.fills_int_mul PySem.F.slot_int_rmul repeat_tuple PySem.F.slot_int_index.lookup
    (call_meets PySem.F.slot_int_rmul (typeIs_int s k t) PySem.F.entry_int_rmul (PySem.F.args_int_rmul_2 _ _) (int_rmul_tuple k t l its.toArray n dd sl)
      ⟨ho, rfl, ⟨_, ho, rfl⟩, call_meets PySem.F.slot_tuple_mul ⟨_, ho, rfl⟩ PySem.F.entry_tuple_mul (PySem.F.args_tuple_mul_2 _ _) (tuple_mulA l its.toArray n dd sl k t c0 c1) ⟨ho, .ref l, H, I, rfl, q⟩⟩)
theorem op_repT0 : OpR X (binaryOp .Mult) (fun x y H Q => ∃ l xs, x = .ref l ∧ y = .int 0 ∧ SqT X.K H l xs ∧ xs ≠ [] ∧ ∀ p, H p = none → Q (.ref p) (upd H p (.tup []))) := by
  intro pins s σ H x y v u Q I rx ry h
  obtain ⟨l, xs, rfl, rfl, hT, hne, q⟩ := h
  cases rx
  obtain ⟨t, rfl⟩ := ry
  obtain ⟨its, r, ⟨⟨cls, dd, data, sl⟩, ho, hc, n, hd⟩, hs⟩ := I.tuple hT
  simp only at hc hd
  subst hc hd
  have hi : its.toArray.isEmpty = false := by
    cases r with
    | nil => exact absurd rfl hne
    | cons _ _ => rfl
  refine wpAny_binaryOp_repeat_ref (T := "tuple") (U := "int") (by decide) ⟨_, ho, rfl⟩ (fun s' => typeIs_int s' 0 t) noFill_tuple_mul PySem.F.fills_int_mul PySem.F.slot_int_rmul repeat_tuple PySem.F.slot_int_index.lookup
    (call_meets PySem.F.slot_int_rmul (typeIs_int s 0 t) PySem.F.entry_int_rmul (PySem.F.args_int_rmul_2 _ _) (int_rmul_tuple 0 t l its.toArray n dd sl)
      ⟨ho, rfl, ⟨_, ho, rfl⟩, call_meets PySem.F.slot_tuple_mul ⟨_, ho, rfl⟩ PySem.F.entry_tuple_mul (PySem.F.args_tuple_mul_2 _ _) (tuple_mul0 l its.toArray n dd sl t (by rw [hi]; rfl)) ⟨ho, ?_⟩⟩)
  refine ⟨.ref s.heap.objs.size, _, I.laid (t' := s.toks) (o := .tup []) (fun b ob q => Heap.get?_push_of_some _ q) (Nat.le_refl _) ?_, rfl, q _ (I.hok.fresh (Nat.le_refl _))⟩
  exact ⟨Nat.zero_le _, [], .nil, IsTup.new _ _⟩
theorem os_mul : OpS X (binaryOp .Mult) mulF := by
  intro pins s σ H x y v u Q I rx ry q
  obtain ⟨m, st, dx, dy, rs, r1, r2, q⟩ := q
  cases dx with
  | int a =>
    cases dy with
    | int b =>
      simp only [RV] at r1 r2
      subst r1; subst r2
      simp only [mulF] at q
      split at q
      · rename_i hz
        exact op_mulW pins s σ H _ _ v u Q I rx ry ⟨a, b, rfl, rfl, hz, q m H _ Ext.refl rs (by simp [RV])⟩
      · exact q.elim
    | _ => exact q.elim
  | str a =>
    cases dy with
    | int n =>
      simp only [RV] at r1 r2
      subst r1; subst r2
      simp only [mulF] at q
      split at q
      · rename_i hz
        obtain ⟨h0, h1, h2⟩ := hz
        obtain ⟨t, rfl⟩ := rx
        obtain ⟨t', rfl⟩ := ry
        have q1 := q m H (.str ⟨(List.replicate n.toNat a.cps.toList).flatten.toArray⟩) Ext.refl rs (by simp [RV])
        have hlen : a.cps.toList.length = a.length := by simp [Str.length]
        refine PySem.P.mul_str ?_ (fun h3 _ => ?_) (fun h3 _ => ?_) ?_
        · rw [decide_eq_false (by omega), decide_eq_false (by omega)]; rfl
        · have e : ((a.length : Nat) : Int) * n ≤ 16777216 := by
            have : ((a.length * n.toNat : Nat) : Int) = (a.length : Int) * n := by rw [Int.natCast_mul, Int.toNat_of_nonneg h0]
            rw [← this]
            have h2' : a.length * n.toNat ≤ 16777216 := h2
            omega
          have hn1 : 1 ≤ n := by omega
          have e2 : (a.length : Int) ≤ 16777216 := by
            have : (a.length : Int) * 1 ≤ (a.length : Int) * n := Int.mul_le_mul_of_nonneg_left hn1 (by omega)
            omega
          have e3 : (16777216 : Int) ≤ (2 ^ 63 - 1) / n := by
            rw [Int.le_ediv_iff_mul_le (by omega)]
            have : (16777216 : Int) * n ≤ 16777216 * 1000000 := Int.mul_le_mul_of_nonneg_left h1 (by omega)
            omega
          omega
        · unfold Builtin.Str.tooLong
          have : a.length * n.toNat ≤ 16777216 := h2
          rw [sizeLine_eq]
          exact decide_eq_false (by omega)
        · by_cases c1 : n < 1
          · rw [if_pos c1]
            have : n.toNat = 0 := by omega
            rw [this] at q1
            exact ⟨by decide, .str _, H, I.tok _, ⟨_, rfl⟩, q1⟩
          · rw [if_neg c1]
            by_cases c2 : (n == 1 || a.length == 0) = true
            · rw [if_pos c2]
              rw [Bool.or_eq_true, beq_iff_eq, beq_iff_eq] at c2
              have e : (⟨(List.replicate n.toNat a.cps.toList).flatten.toArray⟩ : Str) = a := by
                rcases c2 with c2 | c2
                · subst c2
                  simp
                · have : a.cps.toList = [] := List.eq_nil_of_length_eq_zero (by rw [hlen]; exact c2)
                  have e2 : a.cps = #[] := by apply Array.ext'; simpa using this
                  obtain ⟨cps⟩ := a
                  simp only at e2
                  subst e2
                  simp
              rw [e] at q1
              exact ⟨.str a, H, I, ⟨t, rfl⟩, q1⟩
            · rw [if_neg c2, rep_str]
              refine ⟨?_, .str _, H, I.tok _, ⟨_, rfl⟩, q1⟩
              show (List.replicate n.toNat a.cps.toList).flatten.toArray.size ≤ sizeLine
              rw [List.size_toArray, PyProof.Rows.lm_len_rep_flat, hlen, Nat.mul_comm]
              exact ofLim h2
      · exact q.elim
    | _ => exact q.elim
  | tup a =>
    cases dy with
    | int n =>
      simp only [mulF] at q
      split at q
      · rename_i hz
        obtain ⟨h0, h1, h2⟩ := hz
        have r1' := r1
        simp only [RV] at r1 r2
        obtain ⟨p, vs, rfl, e1, e2⟩ := r1
        subst r2
        have hl := e2.len
        by_cases c1 : vs = [] ∨ n = 1
        · refine op_repT1 pins s σ H _ _ v u Q I rx ry ⟨p, n, vs, rfl, rfl, e1, c1, by omega, by omega, ?_⟩
          have e : (List.replicate n.toNat a).flatten = a := by
            rcases c1 with c1 | c1
            · have : a = [] := List.eq_nil_of_length_eq_zero (by rw [hl, c1]; rfl)
              subst this
              simp
            · subst c1; simp
          rw [e] at q
          exact q m H _ Ext.refl rs r1'
        · rw [not_or] at c1
          by_cases c2 : n = 0
          · subst c2
            exact op_repT0 pins s σ H _ _ v u Q I rx ry ⟨p, vs, rfl, rfl, e1, c1.1, fun p hp => postO_tup rs q hp (by simp [RVs])⟩
          · refine op_repT pins s σ H _ _ v u Q I rx ry ⟨p, n, vs, rfl, rfl, e1, c1.1, by omega, h1, by rw [← hl]; exact h2, fun p hp => postO_tup rs q hp ?_⟩
            generalize n.toNat = k
            induction k with
            | zero => simp [RVs]
            | succ k ih => rw [List.replicate_succ, List.replicate_succ, List.flatten_cons, List.flatten_cons]; exact e2.append ih
      · exact q.elim
    | _ => exact q.elim
  | ref l =>
    cases dy with
    | int n =>
      simp only [RV] at r1 r2
      obtain ⟨p, rfl, h1⟩ := r1
      subst r2
      simp only [mulF] at q
      split at q
      · rename_i ds ho
        split at q
        · rename_i hz
          obtain ⟨h0, h1', h2⟩ := hz
          obtain ⟨vs, e1, e2⟩ := rs.lst h1 ho
          refine op_rep pins s σ H _ _ v u Q I rx ry ⟨p, n, vs, rfl, rfl, e1, by omega, by omega, by rw [← e2.len]; exact ofLim h2, fun p hp => postO_lst rs q hp ?_⟩
          generalize n.toNat = k
          induction k with
          | zero => simp [RVs]
          | succ k ih => rw [List.replicate_succ, List.replicate_succ, List.flatten_cons, List.flatten_cons]; exact e2.append ih
        · exact q.elim
      · exact q.elim
    | _ => exact q.elim
  | _ => exact q.elim
end

/-! ### turned about -/
def revF (x : D) (st : Store) : Option (D × Store) := match x with
  | .tup ds => some (.tup ds.reverse, st)
  | .str z => if z.length ≤ LIM then some (.str ⟨z.cps.toList.reverse.toArray⟩, st) else none
  | .scr ns => alloc (.lst (ns.reverse.map .int)) st
  | .ref l => match st[l]? with
    | some (.lst ds) => alloc (.lst ds.reverse) st
    | _ => none
  | _ => none
section
variable {prog : Program} {w : World} {A : Around} {E : Value → Shared → Prop} {s : Shared}
theorem part_m1 {v : Value} {Q : Option Int → Shared → Prop} (p : IsPart v (some (-1))) (h : Q (some (-1)) s) : wpAny (model prog w) A (Builtin.Slice.slicePartIndex v) Q E s := HT.slicePart_ p h
theorem places_m1 (n : Nat) : Builtin.Slice.slicePlaces ((n : Int) - 1) (-1) (-1) = n := by
  unfold Builtin.Slice.slicePlaces
  have h1 : ¬ ((-1 : Int) > 0) := by omega
  simp only [h1, if_false]
  split
  · have : ((n : Int) - 1 - -1 - 1) / (- -1) + 1 = n := by
      rw [show (- -1 : Int) = 1 by decide, Int.ediv_one]
      omega
    rw [this]
    simp
  · omega
theorem applied_m1 {sl : Addr} {vl vu vs : Value} {n : Nat} {Q : Int × Int × Nat → Shared → Prop} (hs : s.heap.IsSliceOf sl vl vu vs) (pl : IsPart vl none) (pu : IsPart vu none) (ps : IsPart vs (some (-1)))
    (h : Q ((n : Int) - 1, -1, n) s) : wpAny (model prog w) A (Builtin.Slice.sliceApplied (.ref sl) (pure (n : Int))) Q E s := by
  obtain ⟨os, hos, hcs, hds⟩ := id hs
  unfold Builtin.Slice.sliceApplied Builtin.Slice.sliceFields
  refine wpAny_bind (wpAny_bind (wpAny_field hos hds (x := vl) rfl (wpAny_bind (wpAny_field hos hds (x := vu) rfl (wpAny_bind (wpAny_field hos hds (x := vs) rfl (wpAny_pure ?_)))))))
  refine wpAny_bind (part_m1 ps ?_)
  show wpAny _ _ (if ((-1 : Int) == 0) = true then _ else _) _ _ s
  rw [if_neg (by decide)]
  refine wpAny_bind (HT.slicePart_ pl (wpAny_bind (HT.slicePart_ pu (wpAny_bind (wpAny_pure ?_)))))
  have e : Builtin.Slice.sliceAdjust none none (-1) (n : Int) = ((n : Int) - 1, -1) := by
    unfold Builtin.Slice.sliceAdjust
    simp
  show wpAny _ _ (match Builtin.Slice.sliceAdjust none none (-1) (n : Int) with | (lo, hi) => pure (lo, (-1 : Int), Builtin.Slice.slicePlaces lo hi (-1))) _ _ s
  rw [e]
  show wpAny _ _ (pure ((n : Int) - 1, (-1 : Int), Builtin.Slice.slicePlaces ((n : Int) - 1) (-1) (-1))) _ _ s
  rw [places_m1]
  exact wpAny_pure h
theorem pick_m1 (xs : Array Value) : ((List.range xs.size).filterMap fun (m : Nat) => xs[((xs.size : Int) - 1 + (m : Int) * (-1)).toNat]?).toArray = xs.toList.reverse.toArray := by
  have e : (fun (m : Nat) => xs[((xs.size : Int) - 1 + (m : Int) * (-1)).toNat]?) = fun m => xs[xs.size - 1 - m]? := by
    funext m
    by_cases hm : m < xs.size
    · have : ((xs.size : Int) - 1 + (m : Int) * (-1)).toNat = xs.size - 1 - m := by omega
      rw [this]
    · have : ((xs.size : Int) - 1 + (m : Int) * (-1)).toNat = xs.size - 1 - m := by omega
      rw [this]
  rw [e]
  have := PySem.W.krv_pick xs
  unfold PySem.slicePick at this
  rw [PySem.W.krv_bounds] at this
  have h2 : ((sliceRange ((xs.size : Int) - 1) (-1) (-1)).filterMap (xs[·]?)).toArray = xs.toList.reverse.toArray := this
  rw [PySem.W.krv_sliceRange, List.filterMap_map] at h2
  exact h2
theorem getItem_tuple_m1 {t sl : Addr} {items : Array Value} {vl vu vs : Value} {Q : Value → Shared → Prop} (ht : IsTup s.heap t items) (hs : s.heap.IsSliceOf sl vl vu vs) (pl : IsPart vl none) (pu : IsPart vu none) (ps : IsPart vs (some (-1)))
    (h : Q (.ref s.heap.objs.size) { s with heap := s.heap.push { cls := .type "tuple", data := .seq items.toList.reverse.toArray } })
    (hsz : items.size ≤ sizeLine) : wpAny (model prog w) A (getItem (.ref t) (.ref sl)) Q E s := by
  have htake : sizeOk (.seq items.toList.reverse.toArray) := by
    show items.toList.reverse.toArray.size ≤ sizeLine
    rw [List.size_toArray, List.length_reverse, Array.length_toList]
    exact hsz
  obtain ⟨os, hos, hcs, hds⟩ := id hs
  have hTs : s.TypeIs (.ref sl) "slice" := ⟨os, hos, hcs⟩
  unfold getItem
  try with_reducible refine wpAny_holding ?_
  first | refine wpAny_bind (wpAny_pure ?_) | skip
  refine wpAny_bind (wpAny_sequenceKey ht.typeIs (by decide) ?_)
  refine wpAny_bind (wpAny_callSpecial?_slot (name := Str.ofString "__getitem__") ht.typeIs PyProof.Rows.slot_tuple_getitem
    (wpAny_call_entry PyProof.Rows.slot_tuple_getitem ht.typeIs PySem.F.entry_tuple_getitem ?_ (PySem.F.args_tuple_getitem_2 _ _)))
  show wpAny _ _ (Builtin.Tuple.tupleItemsOf (.ref t) >>= _) _ _ s
  refine wpAny_bind (PyProof.Rows.tupleItemsOf_ ht ?_)
  refine wpAny_bind (wpAny_typeOf hTs ?_)
  rw [if_pos (by decide)]
  refine wpAny_bind (applied_m1 hs pl pu ps ?_)
  have hno : ¬ ((((items.size : Int) - 1) == 0 && (-1 : Int) == 1 && items.size == items.size) = true) := by
    intro q
    rw [Bool.and_eq_true, Bool.and_eq_true] at q
    have := eq_of_beq q.1.2
    omega
  show wpAny _ _ (if (((items.size : Int) - 1) == 0 && (-1 : Int) == 1 && items.size == items.size) = true then _ else _) _ _ s
  rw [if_neg hno, pick_m1]
  first
    | exact wpAny_bind (m := Builtin.Tuple.tupleExact _) (wpAny_newObj_type (wpAny_pure ⟨_, rfl, wpAny_pure h⟩) htake)
    | exact wpAny_bind (m := Builtin.Tuple.tupleExact _) (wpAny_newObj_type (wpAny_bind (wpAny_pure (wpAny_pure ⟨_, rfl, wpAny_pure h⟩))) htake)
    | exact wpAny_bind (wpAny_bind (m := Builtin.Tuple.tupleExact _) (wpAny_newObj_type (wpAny_pure (wpAny_pure ⟨_, rfl, wpAny_pure h⟩)) htake))
    | exact wpAny_bind (wpAny_bind (m := Builtin.Tuple.tupleExact _) (wpAny_newObj_type (wpAny_pure ⟨_, rfl, wpAny_pure h⟩) htake))
end
end Mi
set_option Elab.async false
set_option linter.all false
set_option maxRecDepth 100000
set_option maxHeartbeats 4000000
/-! Mi11: turned about, kinds, constants of the text, texts of values. -/
namespace Mi
open PySem PySem.Spec L2
open PyProof.Rows hiding St
section
variable {cm : Str → Option Value} {W : WX} {X : Cx} {pos : Pos}
theorem RVs.rev_ints {K : PySem.W.Frag} {m : List Addr} {H : Hp} {ns : List Int} : RVs K m H (ns.reverse.map D.int) (ns.map V.int).reverse := by
  rw [← List.map_reverse]
  exact RVs.ints.mpr rfl
theorem de_rev {e : Expr} {fe : EF} {k : Nat} {p1 p2 p3 : Pos} (he : DE cm W X e fe) : DE cm W X (.Subscript e (.Slice none none (some (.UnaryOp .USub (.Constant (.int 1) k p1) p2)) p3) pos) (eUn revF fe) := by
  refine ⟨fun pins s σ H Q I h => ?_⟩
  obtain ⟨m, p, st, re, rs, h⟩ := h
  refine Subscript_ (thn (he.run pins s σ H _ I ⟨m, p, st, re, rs, Post.split h fun d st1 m1 H1 v e1 x1 rs1 r1 h1 => (⟨m1, st1, d, rs1, r1, PostO.of h1⟩ : ∃ m1 st1 d, RSt X.K m1 H1 st1 ∧ RV X.K m1 H1 d v ∧ PostO X.K (RV X.K) m1 H1 (revF d st1) Q)⟩) fun v s1 ⟨x, H1, I1, r1, q1⟩ => ?_)
  obtain ⟨m1, st1, d, rs1, rv, q⟩ := q1
  have hst : PO X (some (.UnaryOp .USub (.Constant (.int 1) k p1) p2)) (tPart (tUn (rU fun i => .int (-i)) (tC (.int 1)))) := po_some (pe_un un_neg pe_int)
  refine wpAny_Slice (thn (po_none.run pins s1 σ H1 (fun o H2 => o = none ∧ H2 = H1) I1 ⟨rfl, rfl⟩) fun vl s2 ⟨l, H2, I2, pl, el, e2⟩ => ?_)
  subst el e2
  refine thn (po_none.run pins s2 σ H2 (fun o H3 => o = none ∧ H3 = H2) I2 ⟨rfl, rfl⟩) fun vu s3 ⟨u, H3, I3, pu, eu, e3⟩ => ?_
  subst eu e3
  refine thn (hst.run pins s3 σ H3 (fun o H4 => o = some (-1) ∧ H4 = H3) I3 ⟨1, rfl, -1, rfl, rfl, rfl⟩) fun vs s4 ⟨o, H4, I4, ps, eo, e4⟩ => ?_
  subst eo e4
  have I5 : Inv X pins σ H4 { s4 with heap := s4.heap.push { cls := .type "slice", data := .fields #[vl, vu, vs] } } := I4.kept (t' := s4.toks) fun b ob q => Heap.get?_push_of_some _ q
  show wpAny (model X.prog X.w) X.A (subscriptTail e (.Slice none none (some (.UnaryOp .USub (.Constant (.int 1) k p1) p2)) p3) v (.ref s4.heap.objs.size)) (EP X pins σ Q) X.xe { s4 with heap := s4.heap.push { cls := .type "slice", data := .fields #[vl, vu, vs] } }
  have lst : ∀ {a : Addr} {xs : List V}, SqL X.K H4 a xs → (∀ p, H4 p = none → Q (.ref p) (upd H4 p (.lst xs.reverse))) →
      wpAny (model X.prog X.w) X.A (subscriptTail e (.Slice none none (some (.UnaryOp .USub (.Constant (.int 1) k p1) p2)) p3) (.ref a) (.ref s4.heap.objs.size)) (EP X pins σ Q) X.xe { s4 with heap := s4.heap.push { cls := .type "slice", data := .fields #[vl, vu, vs] } } := by
    intro a xs hx q
    obtain ⟨its, r, ht, hz⟩ := I5.list hx
    have hlen := r.length
    refine tail_any (ops := [.ref a, .ref s4.heap.objs.size]) ht.isList.typeIs (PySem.slot_list_getitem.lookup) ?_ (by with_unfolding_all rfl)
    refine wpAny_getItem_list_slice ht.isList (Heap.IsSliceOf.new _ vl vu vs) pl pu ps (by decide) ?_ (by rw [List.size_toArray]; omega)
    rw [PySem.W.krv_pick]
    refine ⟨.ref _, _, I5.laid (t' := s4.toks) (o := .lst xs.reverse) (fun b ob q => Heap.get?_push_of_some _ q) (Nat.le_refl _) ?_, rfl, q _ (I5.hok.fresh (Nat.le_refl _))⟩
    exact ⟨by rw [List.length_reverse]; exact hz, _, 0, r.reverse, Heap.get?_push_size _ rfl⟩
  cases d with
  | tup ds =>
    simp only [RV] at rv
    obtain ⟨a, xs, rfl, hx, rs2⟩ := rv
    cases r1
    obtain ⟨its, r, ht, hz⟩ := I5.tuple hx
    have hlen := r.length
    refine tail_any (ops := [.ref a, .ref s4.heap.objs.size]) ht.typeIs (PyProof.Rows.slot_tuple_getitem.lookup) ?_ (by with_unfolding_all rfl)
    refine getItem_tuple_m1 ht (Heap.IsSliceOf.new _ vl vu vs) pl pu ps ?_ (by rw [List.size_toArray]; omega)
    refine ⟨.ref _, _, I5.laid (t' := s4.toks) (o := .tup xs.reverse) (fun b ob q => Heap.get?_push_of_some _ q) (Nat.le_refl _) ?_, rfl, postO_tup rs1 q (I5.hok.fresh (Nat.le_refl _)) rs2.reverse⟩
    exact ⟨by rw [List.length_reverse]; exact hz, _, r.reverse, IsTup.new _ _⟩
  | str z =>
    simp only [RV] at rv
    subst rv
    obtain ⟨t, rfl⟩ := r1
    simp only [revF] at q
    split at q
    · rename_i hz
      obtain ⟨l', rfl, el⟩ := IsPart.raw pl
      obtain ⟨u', rfl, eu⟩ := IsPart.raw pu
      obtain ⟨t', rfl, et⟩ := IsPart.raw ps
      refine tail_any (ops := [.str z t, .ref s4.heap.objs.size]) (typeIs_str _ _ _) (PySem.F.slot_str_getitem.lookup) ?_ (by with_unfolding_all rfl)
      refine wpAny_getItem_str_slice (l := l') (u := u') (st := t') ⟨_, Heap.get?_push_size _ rfl, rfl, rfl⟩ (by rw [et]; rfl) ?_
      have q1 := q m1 H4 (.str ⟨z.cps.toList.reverse.toArray⟩) Ext.refl rs1 (by simp [RV])
      unfold PySem.sliceMade
      rw [et]
      rw [if_neg (by simp)]
      have ep : PySem.slicePicked z l' u' t' = (List.range z.length).map fun k => z.length - 1 - k := by
        unfold PySem.slicePicked
        rw [el, eu, et]
        unfold Builtin.Str.strSliceIndices
        exact PySem.W.krv_sliceRange z.length
      have e5 : ((PySem.slicePicked z l' u' t').filterMap (z.cps[·]?)).toArray = z.cps.toList.reverse.toArray := by
        rw [ep, PySem.W.krv_range, List.filterMap_reverse]
        have : (List.range z.length).filterMap (z.cps[·]?) = z.cps.toList := PySem.W.krv_all z.cps
        rw [this]
      rw [e5]
      refine ⟨?_, .str _, H4, I5.tok _, ⟨_, rfl⟩, q1⟩
      show z.cps.toList.reverse.toArray.size ≤ sizeLine
      rw [List.size_toArray, List.length_reverse, Array.length_toList]
      exact ofLim hz
    · exact q.elim
  | scr ns =>
    simp only [RV] at rv
    obtain ⟨a, rfl, hx⟩ := rv
    cases r1
    exact lst hx.seq fun p hp => postO_lst rs1 q hp RVs.rev_ints
  | ref l =>
    simp only [RV] at rv
    obtain ⟨a, rfl, hx⟩ := rv
    cases r1
    simp only [revF] at q
    split at q
    · rename_i ds ho
      obtain ⟨ws, e1, e2⟩ := rs1.lst hx ho
      exact lst (SqL.of e1) fun p hp => postO_lst rs1 q hp e2.reverse
    · exact q.elim
  | _ => exact q.elim

/-! ### kinds -/
def kindD (d : D) (st : Store) : Option String := match d with
  | .non => some "NoneType"
  | .bl _ => some "bool"
  | .int _ => some "int"
  | .str _ => some "str"
  | .tup _ => some "tuple"
  | .scr _ => some "list"
  | .exn .. => none
  | .ref l => match st[l]? with
    | some (.lst _) => some "list"
    | some (.dic _) => some "dict"
    | none => none
theorem tyx_of {K : PySem.W.Frag} {m : List Addr} {H : Hp} {st : Store} {d : D} {v : V} {k : String} (rs : RSt K m H st) (r : RV K m H d v) (h : kindD d st = some k) : TyX K H v (.type k) := by
  cases d with
  | non => simp only [RV] at r; subst r; cases h; exact .base .non
  | bl b => simp only [RV] at r; subst r; cases h; exact .base (.bl b)
  | int i => simp only [RV] at r; subst r; cases h; exact .base (.int i)
  | str x => simp only [RV] at r; subst r; cases h; exact .base (.str x)
  | tup ds =>
    simp only [RV] at r
    obtain ⟨a, vs, rfl, hx, _⟩ := r
    cases h
    rcases hx with (hx | ⟨o, hx⟩) | ⟨o, its, n, hk, hc, _⟩
    · exact .base (.tup hx)
    · exact .fTuple hx
    · exact .kTuple hk hc
  | scr ns =>
    simp only [RV] at r
    obtain ⟨a, rfl, hx⟩ := r
    cases h
    rcases hx with ⟨o, hx⟩ | ⟨o, its, n, hk, hc, _⟩
    · exact .base (.frz hx)
    · exact .kList hk hc
  | exn => cases h
  | ref l =>
    simp only [RV] at r
    obtain ⟨a, rfl, hx⟩ := r
    simp only [kindD] at h
    split at h
    · rename_i ds ho
      cases h
      obtain ⟨vs, e1, _⟩ := rs.lst hx ho
      exact .base (.lst e1)
    · rename_i ds ho
      cases h
      obtain ⟨vs, e1, _⟩ := rs.dic hx ho
      exact .base (.dK e1)
    · cases h
def isiF (T : String) : D → Store → Option (D × Store) := fun x st => (kindD x st).bind fun k => (kitB k T).map fun b => (.bl b, st)
theorem de_isi {e : Expr} {fe : EF} {T : String} {x : Str} {pf pT : Pos} (he : DE cm W X e fe) (hg : Gl X "isinstance") (hm : X.mg "isinstance" = none) (hgT : Gl X x) (hmT : X.mg x = none) (hv : bootBuiltins x = some (.type T)) (hn : x ≠ "__name__" := by decide) (hdb : (x == ("__debug__" : Str)) = false := by decide)
    (he1 : starEach [e, .Name x pT] X.env = (false, eval e X.env) :: starEach [.Name x pT] X.env := by rfl) (he2 : starEach [.Name x pT] X.env = (false, eval (.Name x pT) X.env) :: starEach [] X.env := by rfl) (hpl : (backTo pos (starEach [.Name x pT] X.env)).any (·.1) = false := by rfl) :
    DE cm W X (.Call (.Name "isinstance" pf) [e, .Name x pT] [] pos) (eUn (isiF T) fe) :=
  peI (pe_callB call_isi hg hm (by decide +kernel) (pa_cons he (pa_cons (pe_bltn (v := .ty T) hgT hmT hv rfl hn hdb) pa_nil he2) he1) (by decide) (by decide) he1 hpl) fun s H Q h => by
    obtain ⟨m, p, st, re, rs, h⟩ := h
    refine ⟨m, p, st, re, rs, Post.split h fun d st1 m1 H1 v e1 x1 rs1 r1 h1 => ?_⟩
    have h1 := PostO.of h1
    unfold isiF at h1
    cases hk : kindD d st1 with
    | none => rw [hk] at h1; exact h1.elim
    | some k =>
      rw [hk] at h1
      cases hb : kitB k T with
      | none => rw [Option.bind_some, hb] at h1; exact h1.elim
      | some b =>
        rw [Option.bind_some, hb] at h1
        exact ⟨v, .ty T, .type k, .type T, b, rfl, .ty T, tyx_of rs1 r1 hk, kit_ty hb, h1 m1 H1 _ Ext.refl rs1 (by simp [RV])⟩

/-! ### what stands in the text's own part -/
def GV (K : PySem.W.Frag) (mg : Str → Option Value) (x : Str) (d : D) : Prop := ∃ u v, mg x = some u ∧ RelV v u ∧ ∀ m H, RV K m H d v
theorem de_glob {x : Str} {d : D} (g : GV X.K X.mg x d) (hg : Gl X x) (hd : (x == ("__debug__" : Str)) = false := by decide) : DE cm W X (.Name x pos) (eC d) := by
  obtain ⟨u, v, hm, r, h⟩ := g
  exact de_c (pe_glob hg hm r hd) h
theorem gv_int {K : PySem.W.Frag} {mg : Str → Option Value} {x : Str} {i : Int} {t : Tok} (h : mg x = some (.int i t)) : GV K mg x (.int i) := ⟨_, .int i, h, ⟨t, rfl⟩, fun _ _ => by simp [RV]⟩
theorem gv_str {K : PySem.W.Frag} {mg : Str → Option Value} {x : Str} {i : Str} {t : Tok} (h : mg x = some (.str i t)) : GV K mg x (.str i) := ⟨_, .str i, h, ⟨t, rfl⟩, fun _ _ => by simp [RV]⟩
theorem gv_strs {K : PySem.W.Frag} {mg : Str → Option Value} {x : Str} {a : Addr} {o : Obj} {its : Array Value} {n : Nat} {zs : List Str} (h : mg x = some (.ref a)) (hk : K.lookup a = some o) (hc : o.cls = .type "tuple") (hd : o.data = .seq its n) (hs : its.size ≤ 1000) (hz : Vals (zs.map V.str) its.toList) : GV K mg x (.tup (zs.map D.str)) :=
  ⟨_, .ref a, h, rfl, fun m H => by simp only [RV]; exact ⟨a, _, rfl, .inr ⟨o, its, n, hk, hc, hd, Nat.le_trans hs (ofLim (by decide)), hz⟩, RVs.strs.mpr rfl⟩⟩
end
end Mi
set_option Elab.async false
set_option linter.all false
set_option maxRecDepth 100000
set_option maxHeartbeats 4000000
/-! Mi12: whole values, and their texts. -/
namespace Mi
open PySem PySem.Spec L2
open PyProof.Rows hiding St
def keyP : Key → PyData
  | .inl i => .int i
  | .inr x => .str x
def datL (f : D → Option PyData) : List D → Option (List PyData)
  | [] => some []
  | d :: ds => (f d).bind fun t => (datL f ds).map (t :: ·)
def datK (f : D → Option PyData) : List (Key × D) → Option (List (PyData × PyData))
  | [] => some []
  | (k, d) :: ds => (f d).bind fun t => (datK f ds).map ((keyP k, t) :: ·)
/-- the whole value, at most n deep -/
def datN : Nat → Store → D → Option PyData
  | 0, _, _ => none
  | n + 1, st, d => match d with
    | .non => some .none
    | .bl b => some (.bool b)
    | .int i => some (.int i)
    | .str x => some (.str x)
    | .tup ds => (datL (datN n st) ds).map .tuple
    | .scr ns => some (.list (ns.map .int))
    | .exn .. => none
    | .ref l => match st[l]? with
      | some (.lst ds) => (datL (datN n st) ds).map .list
      | some (.dic kvs) => (datK (datN n st) kvs).map .dict
      | none => none
theorem depth_ints' : ∀ ns : List Int, PyData.depthAll (ns.map .int) = 0
  | [] => rfl
  | n :: ns => by simp only [List.map_cons, PyData.depthAll, PyData.depth, depth_ints' ns]; rfl
section
variable {X : Cx} {pins : List (Addr × Obj)} {σ : L2.St} {H : Hp} {s : Shared} {m : List Addr} {st : Store}
theorem sys_list (hs : HasSys X.base) (I : Inv X pins σ H s) {a : Addr} {o : Obj} {vs : Array Value} {n : Nat} (e : s.heap.get? a = some o) (c : o.data = .seq vs n) : sysModules ≠ a := by
  rintro rfl
  obtain ⟨o', es, n', e1, c1⟩ := hs
  have := I.bk _ _ e1
  rw [e] at this
  cases this
  rw [c] at c1
  cases c1
theorem key_reads {P : Program} {w : World} {h : Heap} : ∀ (k : Key) (key : Value), (mixKind P w).is k key = true → Reads h key (keyP k) [] := by
  intro k key hk
  rw [mixKind_is] at hk
  rcases keyIs_shape hk with ⟨i, t, rfl, rfl⟩ | ⟨x, t, rfl, rfl⟩
  · exact .int _ _
  · exact .str _ _
theorem reads_ints {h : Heap} : ∀ {ns : List Int} {us : List Value}, Vals (ns.map V.int) us → ReadsAll h us (ns.map .int) []
  | [], us, r => by
    rw [List.map_nil] at r
    cases r
    exact .nil
  | n :: ns, us, r => by
    rw [List.map_cons] at r
    cases r with
    | cons r0 r =>
      obtain ⟨t, rfl⟩ := r0
      exact ReadsAll.cons (.int _ _) (reads_ints r)
/-- what reads_of says at one value -/
def RdOk (X : Cx) (H : Hp) (s : Shared) (m : List Addr) (st : Store) (n : Nat) : Prop :=
  ∀ (d : D) (v : V) (u : Value) (t : PyData), datN n st d = some t → RV X.K m H d v → RelV v u → ∃ as, Reads s.heap u t as ∧ t.depth ≤ n ∧ sysModules ∉ as
theorem reads_all {n : Nat} (ih : RdOk X H s m st n) : ∀ {ds : List D} {vs : List V} {us : List Value} {ts : List PyData}, datL (datN n st) ds = some ts → RVs X.K m H ds vs → Vals vs us → ∃ as, ReadsAll s.heap us ts as ∧ PyData.depthAll ts ≤ n ∧ sysModules ∉ as
  | [], vs, us, ts, e, rv, r => by
    simp only [RVs] at rv
    subst rv
    cases r
    cases e
    exact ⟨[], .nil, Nat.zero_le _, by simp⟩
  | d :: ds, vs, us, ts, e, rv, r => by
    simp only [RVs] at rv
    obtain ⟨v, vr, rfl, r0, rv⟩ := rv
    cases r with
    | cons q0 q =>
      simp only [datL] at e
      obtain ⟨t, e1, e⟩ := Option.bind_eq_some_iff.mp e
      obtain ⟨tr, e2, rfl⟩ := Option.map_eq_some_iff.mp e
      obtain ⟨as, h1, h2, h3⟩ := ih _ _ _ _ e1 r0 q0
      obtain ⟨bs, g1, g2, g3⟩ := reads_all ih e2 rv q
      refine ⟨as ++ bs, .cons h1 g1, ?_, ?_⟩
      · simp only [PyData.depthAll]; omega
      · simp only [List.mem_append, not_or]; exact ⟨h3, g3⟩
theorem reads_kvs {n : Nat} (ih : RdOk X H s m st n) : ∀ {kvs : List (Key × D)} {ws : List (Key × V)} {us : List (Key × Value)} {ts : List (PyData × PyData)}, datK (datN n st) kvs = some ts → RKs X.K m H kvs ws → KV ws us → ∃ as, PyProof.V.PairsRead s.heap keyP us ts as ∧ PyData.depthKv ts ≤ n ∧ sysModules ∉ as
  | [], ws, us, ts, e, rv, r => by
    have := rv.nil_inv
    subst this
    cases r
    cases e
    exact ⟨[], .nil, Nat.zero_le _, by simp⟩
  | (k, d) :: kvs, ws, us, ts, e, rv, r => by
    obtain ⟨v, wr, rfl, r0, rv⟩ := rv.inv
    cases r with
    | @cons _ q _ _ q0 q1 =>
      obtain ⟨k', u⟩ := q
      obtain ⟨ek, q0⟩ := q0
      simp only at ek q0
      subst ek
      simp only [datK] at e
      obtain ⟨t, e1, e⟩ := Option.bind_eq_some_iff.mp e
      obtain ⟨tr, e2, rfl⟩ := Option.map_eq_some_iff.mp e
      obtain ⟨as, h1, h2, h3⟩ := ih _ _ _ _ e1 r0 q0
      obtain ⟨bs, g1, g2, g3⟩ := reads_kvs ih e2 rv q1
      refine ⟨as ++ bs, .cons h1 g1, ?_, ?_⟩
      · have : (keyP k).depth = 0 := by cases k <;> rfl
        simp only [PyData.depthKv, this]; omega
      · simp only [List.mem_append, not_or]; exact ⟨h3, g3⟩
theorem reads_of (hs : HasSys X.base) (I : Inv X pins σ H s) (rs : RSt X.K m H st) : ∀ n, RdOk X H s m st n := by
  intro n
  induction n with
  | zero => intro d v u t e; cases e
  | succ n ih =>
    intro d v u t e rv r
    cases d with
    | non => simp only [RV] at rv; subst rv; cases e; cases r; exact ⟨[], .none, by simp [PyData.depth], by simp⟩
    | bl b => simp only [RV] at rv; subst rv; cases e; cases r; exact ⟨[], .bool _, by simp [PyData.depth], by simp⟩
    | int i => simp only [RV] at rv; subst rv; cases e; obtain ⟨t, rfl⟩ := r; exact ⟨[], .int _ _, by simp [PyData.depth], by simp⟩
    | str x => simp only [RV] at rv; subst rv; cases e; obtain ⟨t, rfl⟩ := r; exact ⟨[], .str _ _, by simp [PyData.depth], by simp⟩
    | tup ds =>
      simp only [RV] at rv
      obtain ⟨a, vs, rfl, hx, rv⟩ := rv
      cases r
      simp only [datN] at e
      obtain ⟨ts, e1, rfl⟩ := Option.map_eq_some_iff.mp e
      obtain ⟨its, q, ⟨o, g1, g2, k, g3⟩, _⟩ := I.tuple hx
      obtain ⟨as, h1, h2, h3⟩ := reads_all ih e1 rv q
      exact ⟨as, .tuple g1 g2 g3 (by simpa using h1), by simp only [PyData.depth]; omega, h3⟩
    | exn => cases e
    | scr ns =>
      simp only [RV] at rv
      obtain ⟨a, rfl, hx⟩ := rv
      cases r
      cases e
      obtain ⟨its, q, ⟨o, k, g1, g2, _, g3⟩, _⟩ := I.list hx.seq
      have h1 := reads_ints (h := s.heap) q
      refine ⟨[a], .list g1 g2 g3 (by simpa using h1), ?_, ?_⟩
      · have := depth_ints' ns
        simp only [PyData.depth, this]; omega
      · simp only [List.mem_singleton]; exact sys_list hs I g1 g3
    | ref l =>
      simp only [RV] at rv
      obtain ⟨a, rfl, hx⟩ := rv
      cases r
      simp only [datN] at e
      split at e
      · rename_i ds ho
        obtain ⟨ts, e1, rfl⟩ := Option.map_eq_some_iff.mp e
        obtain ⟨vs, f1, f2⟩ := rs.lst hx ho
        obtain ⟨its, q, ⟨o, k, g1, g2, _, g3⟩, _⟩ := I.list (SqL.of f1)
        obtain ⟨as, h1, h2, h3⟩ := reads_all ih e1 f2 q
        refine ⟨a :: as, .list g1 g2 g3 (by simpa using h1), by simp only [PyData.depth]; omega, ?_⟩
        simp only [List.mem_cons, not_or]
        exact ⟨sys_list hs I g1 g3, h3⟩
      · rename_i kvs ho
        obtain ⟨ts, e1, rfl⟩ := Option.map_eq_some_iff.mp e
        obtain ⟨ws, f1, f2⟩ := rs.dic hx ho
        obtain ⟨_, hne, us, q, dd⟩ := dk_of I.hok f1
        obtain ⟨as, h1, h2, h3⟩ := reads_kvs ih e1 f2 q
        refine ⟨a :: as, PyProof.V.reads_dictOf key_reads dd h1, by simp only [PyData.depth]; omega, ?_⟩
        simp only [List.mem_cons, not_or]
        exact ⟨fun e => by rw [← e] at hne; simp at hne, h3⟩
      · cases e
/-- repr(x) -/
def reprF : List D → Store → Option (D × Store) := fun xs st => match xs with
  | [d] => (datN 150 st d).bind fun t => if t.showable = true ∧ t.shown.length ≤ LIM then some (.str t.shown, st) else none
  | _ => none
theorem cs_repr (hs : HasSys X.base) (hu : X.A.units + 160 < cLine) (hg : X.A.guards = some []) : CallS X (.builtin "repr") reprF := by
  intro pins s σ H xs us Q I r q
  obtain ⟨m, st, ds, rs, r0, q⟩ := q
  match ds, q with
  | [d], q =>
    obtain ⟨v, rfl, r1⟩ := rvs_1 r0
    obtain ⟨u, rfl, ru⟩ := vals1 r
    simp only [reprF] at q
    cases e : datN 150 st d with
    | none => rw [e] at q; exact q.elim
    | some t =>
      rw [e, Option.bind_some] at q
      split at q
      · rename_i hz
        have hz2 := ofLim hz.2
        obtain ⟨as, h1, h2, h3⟩ := reads_of hs I rs 150 d v u t e r1 ru
        have q1 := q m H (.str t.shown) Ext.refl rs (by simp [RV])
        have rf : ∀ {a : Addr}, Reads s.heap (.ref a) t as → wpAny (model X.prog X.w) X.A (call (.builtin "repr") [.ref a]) (EP X pins σ Q) X.xe s := fun h1 =>
          repr_of_reads' h1 hz.1 (fun _ => h3) hg (by omega) (fun _ _ e => e) (fun h' u tk hk => ⟨.str t.shown, H, I.kept hk, ⟨_, rfl⟩, q1⟩) hz2
        have sh := hz.1
        cases h1 with
        | none => exact PySem.P.repr_of_none ⟨.str _, H, I.tok _, ⟨_, rfl⟩, q1⟩
        | bool b => exact PySem.P.repr_of_bool ⟨.str _, H, I.tok _, ⟨_, rfl⟩, q1⟩
        | int i tk => exact PySem.P.repr_of_int (by simpa [PyData.showable] using sh) ⟨.str _, H, I.tok _, ⟨_, rfl⟩, q1⟩
        | str x tk => exact PySem.P.repr_of_str ⟨.str _, H, I.tok _, ⟨_, rfl⟩, q1⟩ hz2
        | list a b c d => exact rf (.list a b c d)
        | tuple a b c d => exact rf (.tuple a b c d)
        | dict a b c d e2 => exact rf (.dict a b c d e2)
      · exact q.elim
end
end Mi
set_option Elab.async false
set_option linter.all false
set_option maxRecDepth 100000
set_option maxHeartbeats 4000000
/-! Mi13: what a law's derivations lean on. -/
namespace Mi
open PySem PySem.Spec L2
open PyProof.Rows hiding St
theorem takes0 {X : Cx} : Takes X W0 := fun u s' ⟨a, B, sI, pins, σ, H, cls, d, e, I, nb, up, sky, na, os, ag, w⟩ => w.elim
def notInF (x y : D) (st : Store) : Option Bool := (inF x y st).map (!·)
/-- the def of that name stands there -/
structure FF (K : PySem.W.Frag) (mg : Str → Option Value) (x : Str) (st : Stmt) (f : Addr) (fd : FuncData) : Prop where
  F : Fun K x x st f fd
  m : mg x = some (.ref f)
/-- no claim -/
def sBad : SF := fun _ _ => .bad
section
variable {cm : Str → Option Value} {W : WX} {X : Cx}
theorem ds_bad {t : Stmt} : DS cm W X t sBad := by
  refine ⟨fun pins s σ H D0 I h => ?_⟩
  obtain ⟨m, p, st, re, rs, h⟩ := h
  exact h.elim
end
section
variable {cm : Str → Option Value} {P : Program} {w : World} {K : PySem.W.Frag} {mg : Str → Option Value} {base : Heap}
theorem fnD_bad {x qual : Str} {st : Stmt} {f : Addr} {fd : FuncData} {ps : List Str} {k : Nat} (F : Fun K x qual st f fd) (hm : mg x = some (.ref f)) (bd : Binds K fd ps []) : FnD cm P w K mg base k x ps f fd (fun _ _ => .bad) :=
  ⟨⟨fun vs H Q E h => h.1, fun A outer s H args us vs Q E hg hr e0 hb r h => by
    obtain ⟨_, m, st, ds, _, _, h⟩ := h
    exact h.elim⟩, hm, F.kp, bd⟩
/-- a def as the top's facts show it -/
theorem ff_mk {h : Heap} {x : Str} {st : Stmt} {f : Addr} {od an : Option Addr} {sl : Array (Option Value)} {oc kV dc pm cd ct : Value} (X : K.In h) (G : h.Ns mainGlobals mg)
    (a : PySem.W.nsIn K mainGlobals x = some (some (.ref f))) (l : K.lookup f = some ⟨oc, od, .func (PySem.W.fnOf x x (defArgs st) (defBody st) (defScope st) .none kV dc pm an cd ct), sl⟩) (c : PySem.W.codeIn K cd x = true) (k : PySem.W.keepIn K (.ref f) = true) :
    FF K mg x st f (PySem.W.fnOf x x (defArgs st) (defBody st) (defScope st) .none kV dc pm an cd ct) := ⟨fun_mk l c k, PySem.W.mg_of X G a⟩
end
end Mi
set_option Elab.async false
set_option linter.all false
set_option maxRecDepth 100000
set_option maxHeartbeats 4000000
/-! Mi14: f-strings of texts and ints. -/
namespace Mi
open PySem PySem.Spec L2
open PyProof.Rows hiding St
/-- a part's text -/
def fmtD (fm : Bool) (x : D) : Option Str := match x with
  | .str y => some y
  | .int i => if fm = true ∧ i.natAbs.log2 < 1920 then some (toString i) else none
  | _ => none
def fsGo : List (Bool × EF) → Str → EF
  | [], acc => fun _ st => .ok (.str acc) st
  | (fm, f) :: r, acc => fun p st => bindR (f p st) fun x st1 => match fmtD fm x with
    | some y => if y.length ≤ LIM ∧ (acc ++ y).length ≤ LIM then fsGo r (acc ++ y) p st1 else .bad
    | none => .bad
def eFs (ps : List (Bool × EF)) : EF := fsGo ps Str.empty
inductive DJ (cm : Str → Option Value) (W : WX) (X : Cx) : List Expr → List (Bool × EF) → List TE → Prop where
  | nil : DJ cm W X [] [] []
  | lit {e : Expr} {f : EF} {es : List Expr} {fs : List (Bool × EF)} {ts : List TE} (h : DE cm W X e f) (r : DJ cm W X es fs ts) : DJ cm W X (e :: es) ((false, f) :: fs) (LiftE cm X.K W f :: ts)
  | fmt {e : Expr} {f : EF} {es : List Expr} {fs : List (Bool × EF)} {ts : List TE} {pos : Pos} (h : DE cm W X e f) (r : DJ cm W X es fs ts) : DJ cm W X (.FormattedValue e (-1) none pos :: es) ((true, f) :: fs) (tFmt (LiftE cm X.K W f) :: ts)
section
variable {cm : Str → Option Value} {W : WX} {X : Cx}
theorem DJ.pj {es : List Expr} {fs : List (Bool × EF)} {ts : List TE} (h : DJ cm W X es fs ts) : PJ X es ts := by
  induction h with
  | nil => exact .nil
  | lit h _ ih => exact .cons h ih
  | fmt h _ ih => exact .cons (pe_fmt h) ih
theorem DJ.run {es : List Expr} {fs : List (Bool × EF)} {ts : List TE} (h : DJ cm W X es fs ts) : ∀ (acc : Str) (s : St) (H : Hp) (Q : V → Hp → Prop), LiftE cm X.K W (fsGo fs acc) s H Q → tJs ts acc s H fun out H1 => Q (.str out) H1 := by
  induction h with
  | nil =>
    intro acc s H Q q
    obtain ⟨m, p, st, re, rs, q⟩ := q
    exact q m H (.str acc) Ext.refl rs (by simp [RV])
  | lit h r ih =>
    intro acc s H Q q
    obtain ⟨m, p, st, re, rs, q⟩ := q
    refine ⟨m, p, st, re, rs, Post.split q fun d1 st1 m1 H1 v1 e1 x1 rs1 r1 h1 => ?_⟩
    cases d1 with
    | str y =>
      simp only [RV] at r1
      subst r1
      simp only [fmtD] at h1
      split at h1
      · rename_i hz
        exact ⟨y, rfl, ofLim hz.2, ih _ _ _ _ ⟨m1, p, st1, re.ext rs x1, rs1, h1⟩⟩
      · exact h1.elim
    | int i =>
      simp only [fmtD] at h1
      rw [if_neg (by simp)] at h1
      exact h1.elim
    | _ => exact h1.elim
  | fmt h r ih =>
    intro acc s H Q q
    obtain ⟨m, p, st, re, rs, q⟩ := q
    refine ⟨m, p, st, re, rs, Post.split q fun d1 st1 m1 H1 v1 e1 x1 rs1 r1 h1 => ?_⟩
    cases d1 with
    | str y =>
      simp only [RV] at r1
      subst r1
      simp only [fmtD] at h1
      split at h1
      · rename_i hz
        exact .inl ⟨y, rfl, ofLim hz.1, y, rfl, ofLim hz.2, ih _ _ _ _ ⟨m1, p, st1, re.ext rs x1, rs1, h1⟩⟩
      · exact h1.elim
    | int i =>
      simp only [RV] at r1
      subst r1
      simp only [fmtD] at h1
      by_cases hi : i.natAbs.log2 < 1920
      · rw [if_pos ⟨True.intro, hi⟩] at h1
        dsimp only at h1
        split at h1
        · rename_i hz
          exact .inr ⟨i, rfl, hi, (toString i : String), rfl, ofLim hz.2, ih _ _ _ _ ⟨m1, p, st1, re.ext rs x1, rs1, h1⟩⟩
        · exact h1.elim
      · rw [if_neg (fun q => hi q.2)] at h1
        exact h1.elim
    | _ => exact h1.elim
theorem de_fstr {v1 v2 : Expr} {rest : List Expr} {fs : List (Bool × EF)} {ts : List TE} {pos : Pos} (h : DJ cm W X (v1 :: v2 :: rest) fs ts) : DE cm W X (.JoinedStr (v1 :: v2 :: rest) pos) (eFs fs) :=
  peI (pe_joined h.pj) fun s H Q q => h.run _ _ _ _ q
end
end Mi
set_option Elab.async false
set_option linter.all false
set_option maxRecDepth 100000
set_option maxHeartbeats 4000000
/-! Mi15: own exceptions are made and raised (begun). -/
namespace Mi
open PySem PySem.Spec L2
open PyProof.Rows hiding St
section
variable {X : Cx} {e : Expr} {es : List Expr} {ta : TA} {p1 p2 pos : Pos}
/-- B.__init__(self, ..), B an own class without __init__ over ValueError -/
theorem pe_binit {pl : Sem Bool} {x : Str} {B : Addr} (hg : Gl X x) (hm : X.mg x = some (.ref B)) (hk : PySem.W.keepIn X.K (.ref B) = true) (hr : PySem.W.readsIn X.K B (.type "type") = true) (hs : PySem.W.specialIn X.K (.ref B) "__getattribute__" = some (some (.builtin "type.__getattribute__")))
    (vV : PySem.W.findCls X.K (.ref B) (.type "type") "__init__" = some (.val (.builtin "ValueError.__init__"))) (ha : PA X (e :: es) ta) (hdb : (x == ("__debug__" : Str)) = false := by decide)
    (hc : eval (.Call (.Attribute (.Name x p1) "__init__" p2) (e :: es) [] pos) X.env = (do
      let ov ← eval (.Name x p1) X.env
      standAt p2.atName
      let (f, first) ← holding [ov] (getMethod ov "__init__" pl)
      callWith pos f first (backTo pos (starEach (e :: es) X.env)) (backToKw pos (keywordEach [] X.env))) := by rfl)
    (he : starEach (e :: es) X.env = (false, eval e X.env) :: starEach es X.env := by rfl) (hpl : (backTo pos (starEach es X.env)).any (·.1) = false := by rfl) :
    PE X (.Call (.Attribute (.Name x p1) "__init__" p2) (e :: es) [] pos) (tVeI X.K ta) := by
  refine ⟨fun pins s σ H Q I h => ?_⟩
  refine PySem.W.methodCall_KW (ld_glob I hg hm ?_ hdb) hc
  refine PySem.W.method_cls I.kIn hs (PySem.W.cls_value I.kIn hr vV (by decide +kernel) ?_)
  show wpAny _ _ (callWith pos (Value.builtin "ValueError.__init__") [] (backTo pos (starEach (e :: es) X.env)) []) _ _ _
  refine PyProof.Rows.callWith_method1 (thn (ha.run pos pins _ σ H _ (I.tok _) h) fun us s1 ⟨vs, H1, I1, r1, a, C, ws, ev, hl, T, ea, q⟩ => ?_) he hpl
  subst ev
  cases r1 with
  | @cons _ u0 _ ur ra rw' =>
    obtain rfl : u0 = Value.ref a := ra
    have hlen : ur.length ≤ sizeLine := by
      rw [← Paired.length rw', sizeLine_eq]
      omega
    exact oinit_ok T I1 ea hlen fun s' J => ⟨.non, H1, J, rfl, q⟩
end
/-- an error that is made takes its field -/
def spInit (K : PySem.W.Frag) (C : Addr) (f : Str) : Sp := fun vs H Q _ => ∃ (a : Addr) (v : V), vs = [.ref a, v] ∧ H a = some (exo a C none) ∧ ∀ dx, H dx = none → dx ≠ a → Q .non (upd (upd H dx (exd dx [(f, v)])) a (exo a C (some dx)))
theorem spInit_len {K : PySem.W.Frag} {C : Addr} {f y : Str} (vs : List V) (H : Hp) (Q : VK) (E : XK) (h : spInit K C f vs H Q E) : vs.length = [("self" : Str), y].length := by
  obtain ⟨a, v, rfl, _⟩ := h
  rfl
/-- an own class without __init__ over ValueError, as it is named in another one's __init__ -/
structure BaseC (K : PySem.W.Frag) (mg : Str → Option Value) (x : Str) (B : Addr) : Prop where
  g : mg x = some (.ref B)
  k : PySem.W.keepIn K (.ref B) = true
  r : PySem.W.readsIn K B (.type "type") = true
  s : PySem.W.specialIn K (.ref B) "__getattribute__" = some (some (.builtin "type.__getattribute__"))
  v : PySem.W.findCls K (.ref B) (.type "type") "__init__" = some (.val (.builtin "ValueError.__init__"))
/-- an error class of the law: what it leaves is f -/
structure ErrC (cm : Str → Option Value) (P : Program) (w : World) (K : PySem.W.Frag) (mg : Str → Option Value) (base : Heap) (x f : Str) (C : Addr) : Prop where
  g : mg x = some (.ref C)
  T : OexC K C
  c : cm x = some (.ref C)
  i : ∃ (fI : Addr) (fd : FuncData) (y : Str), PySem.W.findIn K (.ref C) "__init__" = some (some (.ref fI)) ∧ PySem.W.typeIn K (.ref fI) = some (.type "function") ∧ FnOk P w K mg base CX0 1 fI fd [("self" : Str), y] (spInit K C f) ∧ Binds K fd [("self" : Str), y] []
def sRaise (x f : Str) (a : EF) : SF := fun p st => bindS p (a p st) fun d st1 => .xc ⟨x, [(f, d)]⟩ p st1
section
variable {cm : Str → Option Value} {W : WX} {X : Cx}
theorem made_heap {H : Hp} {a d : Addr} {o o' u z : HO} (na : H a = none) (ne : d ≠ a) : upd (del (upd (upd (upd H a o) d u) a o') a) d z = upd H d z := by
  funext b
  by_cases hd : b = d
  · rw [hd, upd_same, upd_same]
  · rw [upd_ne hd, upd_ne hd]
    by_cases ha : b = a
    · rw [ha, del_same, na]
    · rw [del_ne ha, upd_ne ha, upd_ne hd, upd_ne ha]
/-- raise C(e) -/
theorem ds_raise {x f : Str} {C : Addr} {e : Expr} {fa : EF} {p pos posR : Pos} (hE : ErrC cm X.prog X.w X.K X.mg X.base x f C) (hc : X.calm = true) (tk : Takes X W) (hr : Room 2 X.A) (he : DE cm W X e fa) (hg : Gl X x := by rfl)
    (hdb : (x == ("__debug__" : Str)) = false := by decide) (hs : starEach [e] X.env = (false, eval e X.env) :: starEach [] X.env := by rfl) (hpl : (backTo pos (starEach [] X.env)).any (·.1) = false := by rfl) :
    DS cm W X (.Raise (some (.Call (.Name x p) [e] [] pos)) none posR) (sRaise x f fa) := by
  obtain ⟨fI, fd, y, iC, tI, F1, bd⟩ := hE.i
  refine psI (ps_raise hc tk (pmk_oex hE.T iC tI F1 hr bd .nil pass0 hg hE.g (pa_cons he pa_nil hs) hdb hs hpl)) fun D σ H h => ?_
  obtain ⟨m, q, st, re, rs, h⟩ := h
  refine ⟨m, q, st, re, rs, PostS.split re rs h fun d st1 m1 H1 v e1 x1 rs1 r1 h1 => ?_⟩
  refine ⟨by show 1 ≤ 1000; decide, fun a na => ⟨a, v, rfl, upd_same, fun dx ndx ne => ⟨rfl, dx, [(f, v)], upd_same, by rw [upd_ne ne, upd_same], by rw [upd_ne ne] at ndx; exact ndx, ?_⟩⟩⟩
  have nd : H1 dx = none := by rw [upd_ne ne] at ndx; exact ndx
  rw [made_heap na ne]
  have dm : dx ∉ m1 := rs1.fresh nd
  have e2 : Ext m1 H1 m1 (upd H1 dx (.xd [(f, v)])) := Ext.refl.touch nd
  have rs2 : RSt X.K m1 (upd H1 dx (.xd [(f, v)])) st1 := rs1.beside nd
  exact h1 m1 _ σ _ _ e2 rs2 ((re.ext rs x1).ext rs1 e2) ⟨hE.c, dx, [(f, v)], rfl, upd_same, dm, rfl, ⟨v, [], rfl, RV.ext rs1 e2 d r1, rfl⟩⟩
end
end Mi
set_option Elab.async false
set_option linter.all false
set_option maxRecDepth 100000
set_option maxHeartbeats 4000000
/-! Mi16: try .. except X as e; what a suite asks of e. -/
namespace Mi
open PySem PySem.Spec L2
open PyProof.Rows hiding St
/-- slot i is empty behind -/
def forgetS (i : Nat) : SR → SR
  | .nx p st => .nx (p.set i none) st
  | .rt d st => .rt d st
  | .bk p st => .bk (p.set i none) st
  | .ct p st => .ct (p.set i none) st
  | _ => .bad
open Classical in
/-- what comes out whatever the place -/
noncomputable def glue {α : Type} (g : α → SR) : SR := if h : ∃ r, ∀ a, g a = r then h.choose else .bad
theorem glue_eq {α : Type} {g : α → SR} {r : SR} (a0 : α) (h : ∀ a, g a = r) : glue g = r := by
  have hx : ∃ r, ∀ a, g a = r := ⟨r, h⟩
  unfold glue
  rw [dif_pos hx, ← hx.choose_spec a0, h a0]
theorem glue_at {α : Type} {g : α → SR} (h : glue g ≠ .bad) (a : α) : g a = glue g := by
  unfold glue at h ⊢
  split
  · rename_i hx
    exact hx.choose_spec a
  · rename_i hx
    rw [dif_neg hx] at h
    exact absurd rfl h
noncomputable def sTry (i : Nat) (sub : Str → Option Bool) (fb : SF) (fS : Addr → Addr → Str → SF) : SF := fun p st => match fb p st with
  | .xc e p1 st1 => match sub e.cls with
    | some true => glue fun ad : Addr × Addr => forgetS i (fS ad.1 ad.2 e.cls (p1.set i (some (.exn ad.1 ad.2 (e.fs.map (·.1)) (e.fs.map (·.2))))) st1)
    | some false => .xc e p1 st1
    | none => .bad
  | r => r
theorem RE.drop {K : PySem.W.Frag} {m : List Addr} {H : Hp} {p : Rho} {s : L2.St} (re : RE K m H p s) (i : Nat) : RE K m H (p.set i none) (s.set i none) := fun j d e => by
  by_cases h : i = j
  · subst h
    rw [List.getElem?_set_self'] at e
    cases h2 : p[i]? with
    | none => rw [h2] at e; cases e
    | some _ => rw [h2] at e; cases e
  · rw [List.getElem?_set_ne h] at e
    obtain ⟨v, e1, e2⟩ := re j d e
    exact ⟨v, by rw [List.getElem?_set_ne h]; exact e1, e2⟩
theorem post_forget {cm : Str → Option Value} {K : PySem.W.Frag} {W : WX} {m : List Addr} {H : Hp} {i : Nat} {r : SR} {D : Ends} (h : PostS cm K W m H (forgetS i r) D) :
    PostS cm K (fun _ _ _ _ => False) m H r { nx := fun σ' H' => D.nx (σ'.set i none) H', rt := D.rt, bk := fun σ' H' => D.bk (σ'.set i none) H', ct := fun σ' H' => D.ct (σ'.set i none) H' } := by
  cases r with
  | nx p st => exact fun m' H' s e rs re => h m' H' _ e rs (re.drop i)
  | rt d st => exact h
  | bk p st => exact fun m' H' s e rs re => h m' H' _ e rs (re.drop i)
  | ct p st => exact fun m' H' s e rs re => h m' H' _ e rs (re.drop i)
  | xc e p st => exact h.elim
  | bad => exact h.elim
theorem zip_unzip {α β : Type} : ∀ xs : List (α × β), (xs.map (·.1)).zip (xs.map (·.2)) = xs
  | [] => rfl
  | (a, b) :: xs => by simp only [List.map_cons, List.zip_cons_cons, zip_unzip xs]
theorem pssIL {e : List Stmt} {X : Cx} {t t' : TS} (h : PSs X e t) (i : ∀ D s H, s.length = X.N.length → t' D s H → t D s H) : PSs X e t' := ⟨fun pins s σ H Q I q => h.run pins s σ H Q I (i _ _ _ I.len q)⟩
section
variable {cm : Str → Option Value} {W : WX} {X : Cx}
/-- try: .. except x as n: .. -/
theorem ds_try {x n : Str} {c : Value} {i : Nat} {body suite : List Stmt} {b₀ : Stmt} {np pos pos' : Pos} {sub : Str → Option Bool} {fb : SF} {fS : Addr → Addr → Str → SF}
    (hN : X.N.Nodup) (tk : Takes X W) (hc : Names X x c) (hsub : ∀ cn b cls, sub cn = some b → cm cn = some cls → PySem.W.exmOne X.K cls c = some b)
    (hb : ∀ (W' : WX) (pn : List (Addr × Obj)) (xe : Value → Shared → Prop), Takes (X.tr pn xe) W' → PassesOwn (model X.prog X.w) X.A X.env xe → DSs cm W' (X.tr pn xe) body fb)
    (hsu : ∀ (a dd : Addr) (oe : Obj) (cls : Value) (cn : Str) (pn : List (Addr × Obj)), cm cn = some cls → Zc cls (some dd) oe → (∃ vs, oe.data = .fields vs) → DSs cm (fun _ _ _ _ => False) (X.suite a ((a, oe) :: pn)) (b₀ :: suite) (fS a dd cn))
    (hi : X.N[i]? = some n := by rfl) (hs : X.stack = X.env :: X.outer := by rfl) (hf : X.env.frame = some X.env.locals := by rfl) (hln : X.env.kindOf n = some .local := by rfl) :
    DS cm W X (.Try body [.ExceptHandler (some (.Name x np)) (some n) (b₀ :: suite) pos'] [] [] pos) (sTry i sub fb fS) := by
  refine psI (ps_try_as (tb := fun W' => LiftS cm X.K W' fb) (ts := fun a cls d D σ H => σ.length = X.N.length → ∃ cn dd, cm cn = some cls ∧ d = some dd ∧ LiftS cm X.K (fun _ _ _ _ => False) (fS a dd cn) D σ H) hs hf hN hi hln hc tk hb (fun a oe cls d pn hz hv => ⟨fun pins s σ H D I q => ?_⟩)) fun D σ H h => ?_
  · obtain ⟨cn, dd, h1, rfl, h2⟩ := q I.len
    exact (hsu a dd oe cls cn pn h1 hz hv).run pins s σ H D I h2
  · obtain ⟨m, p, st, re, rs, h⟩ := h
    refine ⟨m, p, st, re, rs, ?_⟩
    unfold sTry at h
    cases hr : fb p st with
    | nx p1 st1 => rw [hr] at h; exact h
    | rt d st1 => rw [hr] at h; exact h
    | bk p1 st1 => rw [hr] at h; exact h
    | ct p1 st1 => rw [hr] at h; exact h
    | bad => rw [hr] at h; exact h.elim
    | xc e p1 st1 =>
      rw [hr] at h
      simp only at h
      intro m' H' s' c' dd' ex rs' re' rx
      have rx0 := rx
      obtain ⟨hcm, ad, fs, rfl, hxd, hnm, hk, hv⟩ := rx
      cases hb' : sub e.cls with
      | none => rw [hb'] at h; exact h.elim
      | some b =>
        rw [hb'] at h
        refine ⟨b, hsub _ _ _ hb' hcm, fun hbt a na hlen => ?_, fun hbf => ?_⟩
        · subst hbt
          simp only at h
          have hg : glue (fun ad : Addr × Addr => forgetS i (fS ad.1 ad.2 e.cls (p1.set i (some (.exn ad.1 ad.2 (e.fs.map (·.1)) (e.fs.map (·.2))))) st1)) ≠ .bad := fun z => by rw [z] at h; exact h
          rw [← glue_at hg (a, ad)] at h
          refine ⟨e.cls, ad, hcm, rfl, m', _, st1, ?_, rs', post_forget (h.at ex rs')⟩
          refine re'.set (by rw [List.length_set] at hlen; rw [hlen]; exact (List.getElem?_eq_some_iff.mp hi).1) ?_
          simp only [RV]
          refine ⟨trivial, fs.map (·.2), ?_, ?_, hv⟩
          · rw [hk, zip_unzip]; exact hxd
          · rw [List.length_map, List.length_map]
            have := congrArg List.length hk
            simpa using this
        · subst hbf
          simp only at h
          exact h m' H' s' c' _ ex rs' re' rx0
end

/-! ### what a suite asks of the caught error -/
section
variable {X : Cx} {a C dd : Addr} {oe : Obj} {pn : List (Addr × Obj)}
theorem kit_x {pins : List (Addr × Obj)} {σ : L2.St} {H : Hp} {s : Shared} {fs : List (Str × V)} (E : ExcC X.K C) (hz : Zc (.ref C) (some dd) oe) (hf : ∃ vs, oe.data = .fields vs) (I : Inv (X.suite a ((a, oe) :: pn)) pins σ H s) (hd : H dd = some (.xd fs)) :
    ∃ P : Heap → Prop, PySem.W.KitX X.K (.ref a) (.ref C) P ∧ P s.heap := by
  obtain ⟨ha, _⟩ := I.pin (a, oe) (List.mem_append_left _ List.mem_cons_self)
  obtain ⟨vs, hv⟩ := hf
  have hx : ObjOk X.prog X.w H s.heap dd (.xd fs) := I.hok dd _ hd
  obtain ⟨mA, hns, hr⟩ := hx
  obtain ⟨od, ho, hl⟩ := lookIn_ns hns
  have J : PySem.W.InstAt s.heap a oe C (some od) := ⟨ha, hz.1, by unfold PySem.W.notCls; rw [hv] <;> rfl, by rw [hz.2]; exact ho⟩
  obtain ⟨cd, hc, _⟩ := PySem.W.any_some E.hd
  exact ⟨_, PySem.W.kitx_exc (by rw [hc]; rfl) E.hg E.hk E.hs E.ha E.hn E.ht E.hm, J⟩
def rIsX (K : PySem.W.Frag) (C a dd : Addr) : List V → Hp → VK → Prop := fun xs H Q => ∃ (c : V) (u : Value) (b : Bool) (fs : List (Str × V)), xs = [.ref a, c] ∧ H dd = some (.xd fs) ∧ ClsV c u ∧ PySem.W.kitOne K (.ref C) u = some b ∧ Q (.bl b) H
def rIsXT (K : PySem.W.Frag) (C a dd : Addr) : List V → Hp → VK → Prop := fun xs H Q => ∃ (tp : Addr) (cs : List V) (us : List Value) (b : Bool) (fs : List (Str × V)), xs = [.ref a, .ref tp] ∧ H dd = some (.xd fs) ∧ H tp = some (.tup cs) ∧ Paired ClsV cs us ∧ PySem.W.kitAny K (.ref C) us = some b ∧ Q (.bl b) H
theorem call_isX (E : ExcC X.K C) (hz : Zc (.ref C) (some dd) oe) (hf : ∃ vs, oe.data = .fields vs) : CallR (X.suite a ((a, oe) :: pn)) (.builtin "isinstance") (rIsX X.K C a dd) := by
  intro pins s σ H xs us Q I r h
  obtain ⟨c, u, b, fs, rfl, hd, k, e, q⟩ := h
  obtain ⟨u1, u2, rfl, r1, r2⟩ := vals2 r
  have e2 := k.eq r2
  subst e2
  obtain rfl : u1 = Value.ref a := r1
  obtain ⟨P, Z, p⟩ := kit_x E hz hf I hd
  exact PySem.W.kia_one Z I.kIn p e (fun z => nomatch z) fun tk => ⟨.bl b, H, I.tok tk, rfl, q⟩
theorem call_isXT (E : ExcC X.K C) (hz : Zc (.ref C) (some dd) oe) (hf : ∃ vs, oe.data = .fields vs) : CallR (X.suite a ((a, oe) :: pn)) (.builtin "isinstance") (rIsXT X.K C a dd) := by
  intro pins s σ H xs us Q I r h
  obtain ⟨tp, cs, ws, b, fs, rfl, hd, hT, k, e, q⟩ := h
  obtain ⟨u1, u2, rfl, r1, r2⟩ := vals2 r
  cases (show u2 = Value.ref tp from r2)
  obtain rfl : u1 = Value.ref a := r1
  obtain ⟨P, Z, p⟩ := kit_x E hz hf I hd
  obtain ⟨_, its, rv, o, h1, h2, n, h3⟩ := (show ObjOk X.prog X.w H s.heap tp (.tup cs) from I.hok tp _ hT)
  have e3 := ClsV.all k rv
  subst e3
  obtain ⟨oc, od, dt, sl⟩ := o
  simp only at h2 h3
  subst h2 h3
  exact PySem.W.kia_tup Z I.kIn p h1 e (fun z => nomatch z) fun tk => ⟨.bl b, H, I.tok tk, rfl, q⟩
end
theorem call_no {X : Cx} {f : Value} : CallR X f (fun _ _ _ => False) := fun _ _ _ _ _ _ _ _ _ h => h.elim
/-- a class by its name -/
def ClN (mg : Str → Option Value) (x : Str) (u : Value) : Prop := (∃ C, u = .ref C ∧ mg x = some (.ref C)) ∨ (∃ T, u = .type T ∧ mg x = none ∧ bootBuiltins x = some (.type T) ∧ x ≠ "__name__")
def tConst (cs : List V) : TA := fun _ H Q => Q cs H
section
variable {cm : Str → Option Value} {W : WX} {X : Cx} {a dd : Addr} {oe : Obj} {cls : Value} {pn : List (Addr × Obj)} {e : Expr} {fe : EF} {pos pf pT : Pos}
theorem pe_cln {x : Str} {u : Value} (h : ClN X.mg x u) (hg : Gl X x) (hd : (x == ("__debug__" : Str)) = false := by decide) : ∃ c, ClsV c u ∧ PE X (.Name x pos) (tC c) := by
  rcases h with ⟨C, rfl, h⟩ | ⟨T, rfl, h1, h2, h3⟩
  · exact ⟨_, .own C, pe_glob hg h rfl hd⟩
  · exact ⟨_, .ty T, pe_bltn hg h1 h2 rfl h3 hd⟩
/-- names of classes, as they stand in a tuple -/
def CAs (X : Cx) (es : List Expr) (us : List Value) : Prop := ∃ cs, Paired ClsV cs us ∧ PA X es (tConst cs)
theorem cas_nil : CAs X [] [] := ⟨[], .nil, paI pa_nil fun _ _ _ h => h⟩
theorem cas_cons {x : Str} {es : List Expr} {u : Value} {us : List Value} (h : ClN X.mg x u) (hr : CAs X es us) (hg : Gl X x := by rfl) (hd : (x == ("__debug__" : Str)) = false := by decide)
    (hs : starEach (.Name x pos :: es) X.env = (false, eval (.Name x pos) X.env) :: starEach es X.env := by rfl) : CAs X (.Name x pos :: es) (u :: us) := by
  obtain ⟨c, k, p⟩ := pe_cln (pos := pos) h hg hd
  obtain ⟨cs, ks, ps⟩ := hr
  exact ⟨c :: cs, .cons k ks, paI (pa_cons p ps hs) fun _ _ _ h => h⟩
/-- b: the answer, as it stands in the law's table -/
def isxF (a dd : Addr) (b : Option Bool) : D → Store → Option (D × Store) := fun d st => match d with
  | .exn a' dd' _ _ => if a' = a ∧ dd' = dd then b.map fun v => (.bl v, st) else none
  | _ => none
theorem isxF_some {d : D} {st : Store} {b : Option Bool} {r : D × Store} (h : isxF a dd b d st = some r) : ∃ (ks : List Str) (xs : List D) (v : Bool), d = .exn a dd ks xs ∧ b = some v ∧ r = (.bl v, st) := by
  cases d with
  | exn a' dd' ks xs =>
    simp only [isxF] at h
    split at h
    · rename_i hh
      obtain ⟨v, e1, e2⟩ := Option.map_eq_some_iff.mp h
      exact ⟨ks, xs, v, by rw [hh.1, hh.2], e1, e2.symm⟩
    · cases h
  | _ => cases h
theorem de_isx {x : Str} {u : Value} {b : Option Bool} (hz : Zc cls (some dd) oe) (hf : ∃ vs, oe.data = .fields vs) (hq : ∀ v, b = some v → ∃ C, cls = .ref C ∧ ExcC X.K C ∧ PySem.W.kitOne X.K (.ref C) u = some v)
    (he : DE cm W (X.suite a ((a, oe) :: pn)) e fe) (hm : X.mg "isinstance" = none) (hu : ClN X.mg x u) (hg : Gl X "isinstance" := by rfl) (hgT : Gl X x := by rfl) (hdb : (x == ("__debug__" : Str)) = false := by decide)
    (he1 : starEach [e, .Name x pT] X.env = (false, eval e X.env) :: starEach [.Name x pT] X.env := by rfl) (he2 : starEach [.Name x pT] X.env = (false, eval (.Name x pT) X.env) :: starEach [] X.env := by rfl) (hpl : (backTo pos (starEach [.Name x pT] X.env)).any (·.1) = false := by rfl) :
    DE cm W (X.suite a ((a, oe) :: pn)) (.Call (.Name "isinstance" pf) [e, .Name x pT] [] pos) (eUn (isxF a dd b) fe) := by
  obtain ⟨c, k, pc⟩ := pe_cln (X := X.suite a ((a, oe) :: pn)) (pos := pT) hu hgT hdb
  cases hb : b with
  | none =>
    refine peI (pe_callB (call_no (f := .builtin "isinstance")) hg hm (by decide +kernel) (pa_cons he (pa_cons pc pa_nil he2) he1) (by decide) (by decide) he1 hpl) fun s H Q h => ?_
    obtain ⟨m, p, st, re, rs, h⟩ := h
    refine ⟨m, p, st, re, rs, Post.split h fun d st1 m1 H1 v1 e1 x1 rs1 r1 h1 => ?_⟩
    have h1 := PostO.of h1
    cases hx : isxF a dd none d st1 with
    | none => rw [hx] at h1; exact h1.elim
    | some r =>
      obtain ⟨_, _, _, _, z, _⟩ := isxF_some hx
      cases z
  | some v =>
    obtain ⟨C, rfl, E, hk⟩ := hq v hb
    refine peI (pe_callB (call_isX E hz hf) hg hm (by decide +kernel) (pa_cons he (pa_cons pc pa_nil he2) he1) (by decide) (by decide) he1 hpl) fun s H Q h => ?_
    obtain ⟨m, p, st, re, rs, h⟩ := h
    refine ⟨m, p, st, re, rs, Post.split h fun d st1 m1 H1 v1 e1 x1 rs1 r1 h1 => ?_⟩
    have h1 := PostO.of h1
    cases hx : isxF a dd (some v) d st1 with
    | none => rw [hx] at h1; exact h1.elim
    | some r =>
      rw [hx] at h1
      obtain ⟨ks, xs, v', rfl, e2, rfl⟩ := isxF_some hx
      cases e2
      simp only [RV] at r1
      obtain ⟨rfl, zs, h2, _⟩ := r1
      exact ⟨c, u, v, _, rfl, h2, k, hk, h1 m1 H1 _ Ext.refl rs1 (by simp [RV])⟩
theorem de_isxT {es : List Expr} {us : List Value} {b : Option Bool} {x1 : Nat} {pos2 : Pos} (hz : Zc cls (some dd) oe) (hf : ∃ vs, oe.data = .fields vs) (hq : ∀ v, b = some v → ∃ C, cls = .ref C ∧ ExcC X.K C ∧ PySem.W.kitAny X.K (.ref C) us = some v)
    (he : DE cm W (X.suite a ((a, oe) :: pn)) e fe) (hm : X.mg "isinstance" = none) (hu : CAs (X.suite a ((a, oe) :: pn)) es us) (hl : us.length ≤ 1000) (hg : Gl X "isinstance" := by rfl)
    (he1 : starEach [e, .Tuple es x1 pos2] X.env = (false, eval e X.env) :: starEach [.Tuple es x1 pos2] X.env := by rfl) (he2 : starEach [.Tuple es x1 pos2] X.env = (false, eval (.Tuple es x1 pos2) X.env) :: starEach [] X.env := by rfl) (hpl : (backTo pos (starEach [.Tuple es x1 pos2] X.env)).any (·.1) = false := by rfl) :
    DE cm W (X.suite a ((a, oe) :: pn)) (.Call (.Name "isinstance" pf) [e, .Tuple es x1 pos2] [] pos) (eUn (isxF a dd b) fe) := by
  obtain ⟨cs, ks, pc⟩ := hu
  cases hb : b with
  | none =>
    refine peI (pe_callB (call_no (f := .builtin "isinstance")) hg hm (by decide +kernel) (pa_cons he (pa_cons (pe_tup pc) pa_nil he2) he1) (by decide) (by decide) he1 hpl) fun s H Q h => ?_
    obtain ⟨m, p, st, re, rs, h⟩ := h
    refine ⟨m, p, st, re, rs, Post.split h fun d st1 m1 H1 v1 e1 x1 rs1 r1 h1 => ?_⟩
    have h1 := PostO.of h1
    cases hx : isxF a dd none d st1 with
    | none => rw [hx] at h1; exact h1.elim
    | some r =>
      obtain ⟨_, _, _, _, z, _⟩ := isxF_some hx
      cases z
  | some v =>
    obtain ⟨C, rfl, E, hk⟩ := hq v hb
    refine peI (pe_callB (call_isXT E hz hf) hg hm (by decide +kernel) (pa_cons he (pa_cons (pe_tup pc) pa_nil he2) he1) (by decide) (by decide) he1 hpl) fun s H Q h => ?_
    obtain ⟨m, p, st, re, rs, h⟩ := h
    refine ⟨m, p, st, re, rs, Post.split h fun d st1 m1 H1 v1 e1 x1 rs1 r1 h1 => ?_⟩
    have h1 := PostO.of h1
    cases hx : isxF a dd (some v) d st1 with
    | none => rw [hx] at h1; exact h1.elim
    | some r =>
      rw [hx] at h1
      obtain ⟨ks', xs, v', rfl, e2, rfl⟩ := isxF_some hx
      cases e2
      simp only [RV] at r1
      obtain ⟨rfl, zs, h2, _⟩ := r1
      refine ⟨by rw [Paired.length ks, sizeLine_eq]; omega, fun tp ht => ?_⟩
      have nd : dd ≠ tp := fun z => by rw [z, ht] at h2; cases h2
      exact ⟨tp, cs, us, v, _, rfl, by rw [upd_ne nd]; exact h2, upd_same, ks, hk, h1 m1 _ _ (Ext.refl.touch ht) (rs1.beside ht) (by simp [RV])⟩
/-- e.f: ok: whether the class is one whose errors hold the field so -/
def xfF (a dd : Addr) (ok : Bool) (n : Str) : D → Store → Option (D × Store) := fun d st => match d with
  | .exn a' dd' ks xs => if a' = a ∧ dd' = dd ∧ ok = true then ((ks.zip xs).lookup n).map fun v => (v, st) else none
  | _ => none
theorem RVs.lookup {K : PySem.W.Frag} {m : List Addr} {H : Hp} {n : Str} : ∀ {ks : List Str} {xs : List D} {zs : List V} {d : D}, RVs K m H xs zs → (ks.zip xs).lookup n = some d → ∃ v, (ks.zip zs).lookup n = some v ∧ RV K m H d v
  | [], _, _, _, _, e => by simp at e
  | k :: ks, [], _, _, _, e => by simp at e
  | k :: ks, x :: xs, zs, d, r, e => by
    simp only [RVs] at r
    obtain ⟨z, zr, rfl, h1, h2⟩ := r
    simp only [List.zip_cons_cons, List.lookup_cons] at e ⊢
    cases hk : n == k with
    | true => rw [hk] at e; cases e; exact ⟨z, rfl, h1⟩
    | false => rw [hk] at e; exact RVs.lookup h2 e
theorem de_xf {n : Str} {ok : Bool} (hz : Zc cls (some dd) oe) (hf : ∃ vs, oe.data = .fields vs) (hq : ok = true → ∃ C, cls = .ref C ∧ XfC X.K C ∧ PySem.W.findIn X.K (.ref C) n = some none)
    (he : DE cm W (X.suite a ((a, oe) :: pn)) e fe) (hb : attributeBase e n X.env (eval e X.env) = eval e X.env := by rfl) : DE cm W (X.suite a ((a, oe) :: pn)) (.Attribute e n pos) (eUn (xfF a dd ok n) fe) := by
  cases ok with
  | false =>
    refine ⟨fun pins s σ H Q I h => ?_⟩
    obtain ⟨m, p, st, re, rs, h⟩ := h
    refine attr_of hb (thn (he.run pins s σ H (fun _ _ => False) I ⟨m, p, st, re, rs, Post.split h fun d st1 m1 H1 v1 e1 x1 rs1 r1 h1 => ?_⟩) fun u s1 hh => ?_)
    · have g1 := PostO.of h1
      cases d with
      | exn a' dd' ks xs =>
        simp only [xfF] at g1
        split at g1
        · rename_i hh
          cases hh.2.2
        · exact g1.elim
      | _ => exact g1.elim
    · obtain ⟨_, _, _, _, z⟩ := hh
      exact z.elim
  | true =>
    obtain ⟨C, rfl, T, hno⟩ := hq rfl
    refine peI (pe_xf T hno hz hf he hb) fun s H Q h => ?_
    obtain ⟨m, p, st, re, rs, h⟩ := h
    refine ⟨m, p, st, re, rs, Post.split h fun d st1 m1 H1 v1 e1 x1 rs1 r1 h1 => ?_⟩
    have g1 := PostO.of h1
    clear h1
    cases d with
    | exn a' dd' ks xs =>
      simp only [xfF] at g1
      split at g1
      · rename_i hh
        obtain ⟨rfl, rfl, _⟩ := hh
        simp only [RV] at r1
        obtain ⟨rfl, zs, h2, _, h3⟩ := r1
        cases hl : (ks.zip xs).lookup n with
        | none => rw [hl] at g1; exact g1.elim
        | some y =>
          rw [hl] at g1
          obtain ⟨v, h4, h5⟩ := RVs.lookup h3 hl
          exact ⟨rfl, rfl, _, _, v, rfl, h2, h4, g1 m1 H1 _ Ext.refl rs1 h5⟩
      · exact g1.elim
    | _ => exact g1.elim
end
end Mi
set_option Elab.async false
set_option linter.all false
set_option maxRecDepth 100000
set_option maxHeartbeats 4000000
/-! Mi17: what the top has written of error classes; tables of answers. -/
namespace Mi
open PySem PySem.Spec L2
open PyProof.Rows hiding St
/-- an error class whose __init__ is st and whose errors hold f -/
structure XC (K : PySem.W.Frag) (mg : Str → Option Value) (x : Str) (st : Stmt) (C fI : Addr) (fd : FuncData) : Prop where
  m : mg x = some (.ref C)
  O : OexC K C
  X : ExcC K C
  iC : PySem.W.findIn K (.ref C) "__init__" = some (some (.ref fI))
  iT : PySem.W.typeIn K (.ref fI) = some (.type "function")
  F : Fun K "__init__" (x ++ ".__init__") st fI fd
theorem XC.xf {K : PySem.W.Frag} {mg : Str → Option Value} {x : Str} {st : Stmt} {C fI : Addr} {fd : FuncData} (E : XC K mg x st C fI fd) : XfC K C := ⟨E.X.hg, E.X.hk, E.X.hs, E.X.hd⟩
section
variable {K : PySem.W.Frag} {mg : Str → Option Value} {h : Heap} {x q : Str} {st : Stmt} {C D f : Addr} {b : Bool}
theorem xc_mk {od an : Option Addr} {sl : Array (Option Value)} {oc kV dc pm cd ct : Value} {nm q N bs bm sn sub ab col dd k0 k1 k2 k3 k5} (X : K.In h) (G : h.Ns mainGlobals mg)
    (a : PySem.W.nsIn K mainGlobals x = some (some (.ref C))) (lC : K.lookup C = some (excClassObj nm q C N bs bm true sn sub ab col dd k0 k1 k2 k3 k5 "ValueError.__new__")) (rV : PySem.HandSPX.refsVE bm = true)
    (sa : PySem.W.findIn K (.ref C) "__setattr__" = some (some (.builtin "object.__setattr__"))) (exC : PySem.W.subIn K (.ref C) (.type "BaseException") = some true) (tyC : PySem.W.typeIn K (.ref C) = some (.type "type")) (kC : PySem.W.keepIn K (.ref C) = true)
    (hg : PySem.W.findIn K (.ref C) "__getattribute__" = some (some (.builtin "BaseException.__getattribute__"))) (hk : PySem.W.findIn K (.ref C) "__getattr__" = some none) (hd : PySem.W.hasDictIn K C = true) (ha : PySem.W.findIn K (.ref C) "__class__" = some (some (.builtin "object.__class__")))
    (hn : PySem.W.specialIn K (.builtin "object.__class__") "__get__" = some (some (.builtin "getset_descriptor.__get__"))) (ht : PySem.W.takesIn K (.builtin "object.__class__") = some true) (hm : PySem.W.mroIn K C (.type "object") = some true)
    (iC : PySem.W.findIn K (.ref C) "__init__" = some (some (.ref f))) (iF : PySem.W.isFn K (.ref f) = true) (l : K.lookup f = some ⟨oc, od, .func (PySem.W.fnOf "__init__" (x ++ ".__init__") (defArgs st) (defBody st) (defScope st) .none kV dc pm an cd ct), sl⟩)
    (c : PySem.W.codeIn K cd (x ++ ".__init__") = true) (k : PySem.W.keepIn K (.ref f) = true) : XC K mg x st C f (PySem.W.fnOf "__init__" (x ++ ".__init__") (defArgs st) (defBody st) (defScope st) .none kV dc pm an cd ct) :=
  ⟨PySem.W.mg_of X G a, ⟨⟨nm, q, N, bs, bm, sn, sub, ab, col, dd, k0, k1, k2, k3, k5, lC, rV⟩, sa, exC, tyC, kC⟩, ⟨hg, hk, exC, hd, ha, hn, ht, hm⟩, iC, beq_iff_eq.mp iF, fun_mk l c k⟩
/-- a class as it is asked for -/
structure CD (K : PySem.W.Frag) (mg : Str → Option Value) (x : Str) (D : Addr) : Prop where
  m : mg x = some (.ref D)
  i : PySem.W.isClsIn K D = true
  t : PySem.W.typeIn K (.ref D) = some (.type "type")
theorem cd_mk (X : K.In h) (G : h.Ns mainGlobals mg) (a : PySem.W.nsIn K mainGlobals x = some (some (.ref D))) (i : PySem.W.isClsIn K D = true) (t : PySem.W.typeIn K (.ref D) = some (.type "type")) : CD K mg x D := ⟨PySem.W.mg_of X G a, i, t⟩
theorem CD.cln (c : CD K mg x D) : ClN mg x (.ref D) := .inl ⟨D, rfl, c.m⟩
theorem CD.kitCls (c : CD K mg x D) (s : PySem.W.subIn K (.ref C) (.ref D) = some b) : PySem.W.kitCls K (.ref C) (.ref D) = some b := by
  have e2 : ((PySem.W.clsIn K D).isSome && PySem.W.typeIn K (.ref D) == some (.type "type")) = true := by
    have h2' : (PySem.W.clsIn K D).isSome = true := c.i
    rw [h2', c.t] <;> rfl
  show (if ((PySem.W.clsIn K D).isSome && PySem.W.typeIn K (.ref D) == some (.type "type")) = true then PySem.W.subIn K (.ref C) (.ref D) else none) = some b
  rw [if_pos e2]
  exact s
theorem CD.kit (c : CD K mg x D) (s : PySem.W.subIn K (.ref C) (.ref D) = some b) (n : b = true ∨ (Value.ref C == Value.ref D) = false) : PySem.W.kitOne K (.ref C) (.ref D) = some b := by
  unfold PySem.W.kitOne
  split
  · rename_i e
    rcases n with n | n
    · rw [n]
    · rw [n] at e; cases e
  · exact c.kitCls s
theorem CD.exm (c : CD K mg x D) (s : PySem.W.subIn K (.ref C) (.ref D) = some b) (e : PySem.W.subIn K (.ref D) (.type "BaseException") = some true) : PySem.W.exmOne K (.ref C) (.ref D) = some b := by
  unfold PySem.W.exmOne
  rw [e]
  exact c.kitCls s
theorem kit_typ {T : String} (s : PySem.W.subIn K (.ref C) (.type T) = some b) (hm : PySem.W.kitMeta T = true := by decide +kernel) : PySem.W.kitOne K (.ref C) (.type T) = some b := by
  have e : (Value.ref C == Value.type T) = false := Bool.eq_false_iff.mpr fun q => by cases beq_iff_eq.mp q
  unfold PySem.W.kitOne
  rw [e]
  show PySem.W.kitCls K (.ref C) (.type T) = some b
  show (if PySem.W.kitMeta T = true then PySem.W.subIn K (.ref C) (.type T) else none) = some b
  rw [if_pos hm]
  exact s
/-- a table of answers: by the name of the class -/
def TabOk (K : PySem.W.Frag) (mg : Str → Option Value) (q : Value → Bool → Prop) (l : List (Str × Bool)) : Prop := ∀ p ∈ l, ∃ C, mg p.1 = some (.ref C) ∧ ExcC K C ∧ q (.ref C) p.2
theorem tab_nil {q : Value → Bool → Prop} : TabOk K mg q [] := fun _ h => by cases h
theorem tab_cons {q : Value → Bool → Prop} {l : List (Str × Bool)} {fI : Addr} {fd : FuncData} (E : XC K mg x st C fI fd) (hq : q (.ref C) b) (t : TabOk K mg q l) : TabOk K mg q ((x, b) :: l) := fun p hp => by
  rcases List.mem_cons.mp hp with rfl | hp
  · exact ⟨C, E.m, E.X, hq⟩
  · exact t p hp
theorem mem_lookup {α β : Type} [BEq α] [LawfulBEq α] {a : α} {b : β} : ∀ {l : List (α × β)}, l.lookup a = some b → (a, b) ∈ l
  | [], h => by cases h
  | (k, v) :: l, h => by
    rw [List.lookup_cons] at h
    cases hk : a == k with
    | true => rw [hk] at h; cases h; rw [beq_iff_eq.mp hk]; exact List.mem_cons_self
    | false => rw [hk] at h; exact List.mem_cons_of_mem _ (mem_lookup h)
theorem TabOk.at {q : Value → Bool → Prop} {l : List (Str × Bool)} (t : TabOk K mg q l) {cn : Str} {cls : Value} (hc : mg cn = some cls) : ∀ v, l.lookup cn = some v → ∃ C, cls = .ref C ∧ ExcC K C ∧ q (.ref C) v := fun v e => by
  obtain ⟨C, h1, h2, h3⟩ := t _ (mem_lookup e)
  rw [hc] at h1
  cases h1
  exact ⟨C, rfl, h2, h3⟩
theorem TabOk.one {q : Value → Bool → Prop} {l : List (Str × Bool)} (t : TabOk K mg q l) (cn : Str) (b : Bool) (cls : Value) (e : l.lookup cn = some b) (hc : mg cn = some cls) : q cls b := by
  obtain ⟨C, rfl, _, h⟩ := t.at hc b e
  exact h
theorem kitAny_or {t c : Value} {cs : List Value} {b r : Bool} (h : PySem.W.kitOne K t c = some b) (hr : PySem.W.kitAny K t cs = some r) : PySem.W.kitAny K t (c :: cs) = some (b || r) :=
  kitAny_cons h (fun z => by subst z; exact hr) fun z => by subst z; rfl
end
theorem TabOk.fld {K : PySem.W.Frag} {mg : Str → Option Value} {n : Str} {l : List (Str × Bool)} (t : TabOk K mg (fun c v => v = true → ∃ C, c = .ref C ∧ XfC K C ∧ PySem.W.findIn K (.ref C) n = some none) l) {cn : Str} {cls : Value} (hc : mg cn = some cls) :
    (l.lookup cn == some true) = true → ∃ C, cls = .ref C ∧ XfC K C ∧ PySem.W.findIn K (.ref C) n = some none := fun h => t.one cn true cls (beq_iff_eq.mp h) hc rfl
theorem bc_mk {K : PySem.W.Frag} {mg : Str → Option Value} {h : Heap} {x : Str} {B : Addr} (X : K.In h) (G : h.Ns mainGlobals mg) (a : PySem.W.nsIn K mainGlobals x = some (some (.ref B))) (k : PySem.W.keepIn K (.ref B) = true) (r : PySem.W.readsIn K B (.type "type") = true)
    (s : PySem.W.specialIn K (.ref B) "__getattribute__" = some (some (.builtin "type.__getattribute__"))) (v : PySem.W.findCls K (.ref B) (.type "type") "__init__" = some (.val (.builtin "ValueError.__init__"))) : BaseC K mg x B := ⟨PySem.W.mg_of X G a, k, r, s, v⟩
theorem BX.tr {W W' : WX} {k : Nat} {X : Cx} {pn : List (Addr × Obj)} {xe : Value → Shared → Prop} (b : BX W k X) (tk : Takes (X.tr pn xe) W') (po : PassesOwn (model X.prog X.w) X.A X.env xe) : BX W' k (X.tr pn xe) := ⟨tk, po, b.calm, b.nd, b.hr, b.gd, b.sys⟩
/-- what a suite may lean on -/
structure SX (X : Cx) : Prop where
  nd : X.N.Nodup
theorem BX.su {W : WX} {k : Nat} {X : Cx} {a : Addr} {oe : Obj} {pn : List (Addr × Obj)} (b : BX W k X) : SX (X.suite a ((a, oe) :: pn)) := ⟨b.nd⟩
/-! ### in a range -/
/-- x in range(lo, hi) (neg: not in), lo and hi as they come -/
def inRgF (neg : Bool) (a lo hi : EF) : EF := fun p st => bindR (a p st) fun x st1 => bindR (lo p st1) fun l st2 => bindR (hi p st2) fun h st3 => match x, l, h with
  | .int i, .int l, .int h => .ok (.bl (decide (l ≤ i ∧ i < h) != neg)) st3
  | _, _, _ => .bad
section
variable {cm : Str → Option Value} {W : WX} {X : Cx}
theorem op_notIn_rng : OpR X (compareOp .NotIn) (fun x y H Q => ∃ i a lo hi, x = V.int i ∧ y = V.ref a ∧ H a = some (.rng lo hi) ∧ Q (.bl (!decide (lo ≤ i ∧ i < hi))) H) := by
  intro pins s σ H x y v u Q I rx ry h
  obtain ⟨i, a, lo, hi, rfl, rfl, ha, q⟩ := h
  obtain ⟨k, rfl⟩ := rx
  obtain rfl : u = Value.ref a := ry
  obtain ⟨t1, t2, t3, ho⟩ := I.hok a _ ha
  show wpAny _ _ (do return Value.bool (!(← contains (Value.ref a) (Value.int i k)))) _ _ s
  refine wpAny_bind (wpAny_contains_slot (T := "range") ⟨_, ho, rfl⟩ PySem.F.slot_range_contains (PySem.call_meets PySem.F.slot_range_contains ⟨_, ho, rfl⟩ PySem.F.entry_range_contains (PySem.F.args_range_contains_2 _ _) (q_contains a lo hi i t1 t2 t3 k)
    ⟨ho, wpAny_truthy_bool (wpAny_pure ⟨.bl _, H, I, rfl, ?_⟩)⟩))
  rw [place1]
  exact q
theorem op_rg {neg : Bool} : OpR X (compareOp (if neg = true then .NotIn else .In)) (fun x y H Q => ∃ i a lo hi, x = V.int i ∧ y = V.ref a ∧ H a = some (.rng lo hi) ∧ Q (.bl (decide (lo ≤ i ∧ i < hi) != neg)) H) := by
  cases neg with
  | true =>
    intro pins s σ H x y v u Q I rx ry h
    obtain ⟨i, a, lo, hi, e1, e2, ha, q⟩ := h
    exact op_notIn_rng pins s σ H x y v u Q I rx ry ⟨i, a, lo, hi, e1, e2, ha, by simpa using q⟩
  | false =>
    intro pins s σ H x y v u Q I rx ry h
    obtain ⟨i, a, lo, hi, e1, e2, ha, q⟩ := h
    exact op_in_rng pins s σ H x y v u Q I rx ry ⟨i, a, lo, hi, e1, e2, ha, by simpa using q⟩
theorem inRg_split {neg : Bool} {a l h : Expr} {fa fl fh : EF} {s : L2.St} {H : Hp} {Q : VK} (q : LiftE cm X.K W (inRgF neg fa fl fh) s H Q) :
    tOp (fun x y H Q => ∃ i a lo hi, x = V.int i ∧ y = V.ref a ∧ H a = some (.rng lo hi) ∧ Q (.bl (decide (lo ≤ i ∧ i < hi) != neg)) H) (LiftE cm X.K W fa) (tCB (fun vs H Q => ∃ i j, vs = [V.int i, V.int j] ∧ ∀ p, H p = none → Q (.ref p) (upd H p (.rng i j))) (tCons (LiftE cm X.K W fl) (tCons (LiftE cm X.K W fh) tNil))) s H Q := by
    obtain ⟨m, p, st, re, rs, q⟩ := q
    refine ⟨m, p, st, re, rs, Post.split q fun d1 st1 m1 H1 v1 e1 x1 rs1 r1 q1 => ?_⟩
    refine ⟨m1, p, st1, re.ext rs x1, rs1, Post.split q1 fun d2 st2 m2 H2 v2 e2 x2 rs2 r2 q2 => ?_⟩
    refine ⟨m2, p, st2, (re.ext rs x1).ext rs1 x2, rs2, Post.split q2 fun d3 st3 m3 H3 v3 e3 x3 rs3 r3 q3 => ?_⟩
    cases d1 with
    | int i =>
      cases d2 with
      | int lo =>
        cases d3 with
        | int hi =>
          simp only [RV] at r1 r2 r3
          subst r1 r2 r3
          exact ⟨lo, hi, rfl, fun pl hp => ⟨i, pl, lo, hi, rfl, rfl, upd_same, q3 m3 _ _ (Ext.refl.touch hp) (rs3.beside hp) (by simp [RV])⟩⟩
        | _ => exact q3.elim
      | _ => exact q3.elim
    | _ => exact q3.elim
theorem de_inRg {neg : Bool} {a l h : Expr} {fa fl fh : EF} {pf pos1 pos : Pos} (hg : Gl X "range") (hm : X.mg "range" = none) (ha : DE cm W X a fa) (hl : DE cm W X l fl) (hh : DE cm W X h fh)
    (he : starEach [l, h] X.env = (false, eval l X.env) :: starEach [h] X.env := by rfl) (he2 : starEach [h] X.env = (false, eval h X.env) :: starEach [] X.env := by rfl) (hpl : (backTo pos1 (starEach [h] X.env)).any (·.1) = false := by rfl)
    (hb : behindInMarks (if neg = true then .NotIn else .In) (.Call (.Name "range" pf) [l, h] [] pos1) = false := by rfl) :
    DE cm W X (.Compare a [if neg = true then .NotIn else .In] [.Call (.Name "range" pf) [l, h] [] pos1] pos) (inRgF neg fa fl fh) :=
  peI (pe_cmpR op_rg ha (pe_callTy cr_range2 hg hm (by decide +kernel) (pa_cons hl (pa_cons hh pa_nil he2) he) (by decide) (by decide) he hpl) hb) fun s H Q q => inRg_split (a := a) (l := l) (h := h) q
theorem dt_inRg {neg : Bool} {a l h : Expr} {fa fl fh : EF} {pf pos1 pos : Pos} (hg : Gl X "range") (hm : X.mg "range" = none) (ha : DE cm W X a fa) (hl : DE cm W X l fl) (hh : DE cm W X h fh)
    (he : starEach [l, h] X.env = (false, eval l X.env) :: starEach [h] X.env := by rfl) (he2 : starEach [h] X.env = (false, eval h X.env) :: starEach [] X.env := by rfl) (hpl : (backTo pos1 (starEach [h] X.env)).any (·.1) = false := by rfl)
    (hb : behindInMarks (if neg = true then .NotIn else .In) (.Call (.Name "range" pf) [l, h] [] pos1) = false := by rfl) :
    DT cm W X (.Compare a [if neg = true then .NotIn else .In] [.Call (.Name "range" pf) [l, h] [] pos1] pos) (tVal (inRgF neg fa fl fh)) :=
  dt_of (t := LiftE cm X.K W fa) (ptI (pt_cmpR op_rg ha (pe_callTy cr_range2 hg hm (by decide +kernel) (pa_cons hl (pa_cons hh pa_nil he2) he) (by decide) (by decide) he hpl) hb) fun s H Q q => inRg_split (a := a) (l := l) (h := h) q)
end
/-- no claim -/
def eBad : EF := fun _ _ => .bad
theorem de_bad {cm : Str → Option Value} {W : WX} {X : Cx} {e : Expr} : DE cm W X e eBad := ⟨fun _ _ _ _ _ _ ⟨_, _, _, _, _, h⟩ => h.elim⟩
end Mi
set_option Elab.async false
set_option linter.all false
set_option maxRecDepth 100000
set_option maxHeartbeats 4000000
/-! Mi18: str.replace of written texts: behind a written text a token is out. -/
namespace Mi
open PySem PySem.Spec L2
open PyProof.Rows hiding St
def DET (cm : Str → Option Value) (W : WX) (X : Cx) (e : Expr) (f : EF) : Prop := PET X e (LiftE cm X.K W f)
def DAT (cm : Str → Option Value) (W : WX) (X : Cx) (es : List Expr) (f : AF) : Prop := PAT X es (LiftA cm X.K W f)
def DST (cm : Str → Option Value) (W : WX) (X : Cx) (s : Stmt) (f : SF) : Prop := PST X s (LiftS cm X.K W f)
def DSsT (cm : Str → Option Value) (W : WX) (X : Cx) (s : List Stmt) (f : SF) : Prop := PSsT X s (LiftS cm X.K W f)
/-- behind it a token is out -/
def PE1 (X : Cx) (e : Expr) (t : TE) : Prop := ∀ (pins : List (Addr × Obj)) (s : Shared) (σ : L2.St) (H : Hp) (Q : VK), Inv X pins σ H s → t σ H Q → wpAny (model X.prog X.w) X.A (eval e X.env) (fun v s' => EP X pins σ Q v s' ∧ 1 ≤ s'.toks) X.xe s
def DE1 (cm : Str → Option Value) (W : WX) (X : Cx) (e : Expr) (f : EF) : Prop := PE1 X e (LiftE cm X.K W f)
def replF (y z : Str) : D → Store → Option (D × Store) := fun d st => match d with
  | .str x => if x.length + (x.length + 1) * z.length ≤ 16777216 then some (.str (Txt.replace x y z), st) else none
  | _ => none
section
variable {cm : Str → Option Value} {W : WX} {X : Cx} {a b e : Expr} {es : List Expr} {fa fb fe : EF} {fs : AF} {pos : Pos} {f g : SF} {s1 : Stmt} {ss : List Stmt}
theorem petI {t t' : TE} (h : PET X e t) (i : ∀ s H Q, t' s H Q → t s H Q) : PET X e t' := fun pins s σ H Q h0 I q => h pins s σ H Q h0 I (i _ _ _ q)
theorem patI {t t' : TA} (h : PAT X es t) (i : ∀ s H Q, t' s H Q → t s H Q) : PAT X es t' := fun pos pins s σ H Q h0 I q => h pos pins s σ H Q h0 I (i _ _ _ q)
theorem pstI {t t' : TS} (h : PST X s1 t) (i : ∀ D s H, t' D s H → t D s H) : PST X s1 t' := fun pins s σ H Q h0 I q => h pins s σ H Q h0 I (i _ _ _ q)
theorem psstI {t t' : TS} (h : PSsT X ss t) (i : ∀ D s H, t' D s H → t D s H) : PSsT X ss t' := fun pins s σ H Q h0 I q => h pins s σ H Q h0 I (i _ _ _ q)
theorem det_of (h : DE cm W X e fe) : DET cm W X e fe := CwR.PET.of h
theorem dst_of (h : DS cm W X s1 f) : DST cm W X s1 f := PST.of h
theorem dsst_of (h : DSs cm W X ss f) : DSsT cm W X ss f := PSsT.of h
theorem dat_nil : DAT cm W X [] aNil := fun pos pins s σ H Q _ I h => da_nil.run pos pins s σ H Q I h
theorem dat_cons (ha : DET cm W X a fa) (hr : DAT cm W X es fs) (hs : starEach (a :: es) X.env = (false, eval a X.env) :: starEach es X.env := by rfl) : DAT cm W X (a :: es) (aCons fa fs) := patI (pat_cons ha hr hs) fun s H Q h => by
  obtain ⟨m, p, st, re, rs, h⟩ := h
  refine ⟨m, p, st, re, rs, Post.split h fun d1 st1 m1 H1 v1 e1 x1 rs1 r1 h1 => ?_⟩
  refine ⟨m1, p, st1, re.ext rs x1, rs1, Post.split h1 fun d2 st2 m2 H2 v2 e2 x2 rs2 r2 h2 => ?_⟩
  exact h2 m2 H2 _ Ext.refl rs2 (RVs.cons (RV.ext rs1 x2 _ r1) r2)
theorem lst_split {s : L2.St} {H : Hp} {Q : VK} (h : LiftE cm X.K W (eB mkLst fs) s H Q) : tLst (LiftA cm X.K W fs) s H Q := by
  obtain ⟨m, p, st, re, rs, h⟩ := h
  refine ⟨m, p, st, re, rs, Post.split h fun d1 st1 m1 H1 v1 e1 x1 rs1 r1 h1 => ?_⟩
  have h1 := PostO.of h1
  unfold mkLst at h1
  split at h1
  · rename_i hz
    exact ⟨by rw [← r1.len]; exact ofLim hz, fun q hq => postO_lst rs1 h1 hq r1⟩
  · exact h1.elim
theorem det_lst (h : DAT cm W X es fs) : DET cm W X (.List es pos) (eB mkLst fs) := petI (pet_lst h) fun s H Q h => lst_split h
theorem det_op {op : Operator} {g : D → D → Store → Option (D × Store)} (ho : OpS X (binaryOp op) g) (ha : DET cm W X a fa) (hb : DET cm W X b fb) : DET cm W X (.BinOp a op b pos) (eOp g fa fb) :=
  petI (CwR.pet_op ho ha hb) fun s H Q h => by
    obtain ⟨m, p, st, re, rs, h⟩ := h
    refine ⟨m, p, st, re, rs, Post.split h fun d1 st1 m1 H1 v1 e1 x1 rs1 r1 h1 => ?_⟩
    refine ⟨m1, p, st1, re.ext rs x1, rs1, Post.split h1 fun d2 st2 m2 H2 v2 e2 x2 rs2 r2 h2 => ?_⟩
    exact ⟨m2, st2, d1, d2, rs2, RV.ext rs1 x2 _ r1, r2, PostO.of h2⟩
theorem pet_ix {r : R2} {ta tb : TE} (hr : IxR X r) (ha : PET X a ta) (hb : PET X b tb) (hs : PlainIx b) : PET X (.Subscript a b pos) (tOp r ta tb) := by
  intro pins s σ H Q h0 I h
  refine Subscript_ (wpAny_mono (PySem.wpAny_toks (ha pins s σ H _ h0 I h)) (fun v s1 q => ?_) fun _ _ z => z.2)
  obtain ⟨hk, x, H1, I1, r1, q1⟩ := q
  exact thn (hb pins s1 σ H1 _ (Nat.le_trans h0 hk) I1 q1) fun u s2 ⟨y, H2, I2, r2, q2⟩ => hr a b pins s2 σ H2 x y v u Q I2 r1 r2 q2 (hs _ _)
theorem det_ix {g : D → D → Store → Option (D × Store)} (hr : IxS X g) (ha : DET cm W X a fa) (hb : DET cm W X b fb) (hs : PlainIx b := by intro _ _; rfl) : DET cm W X (.Subscript a b pos) (eOp g fa fb) :=
  petI (pet_ix hr ha hb hs) fun s H Q h => by
    obtain ⟨m, p, st, re, rs, h⟩ := h
    refine ⟨m, p, st, re, rs, Post.split h fun d1 st1 m1 H1 v1 e1 x1 rs1 r1 h1 => ?_⟩
    refine ⟨m1, p, st1, re.ext rs x1, rs1, Post.split h1 fun d2 st2 m2 H2 v2 e2 x2 rs2 r2 h2 => ?_⟩
    exact ⟨m2, st2, d1, d2, rs2, RV.ext rs1 x2 _ r1, r2, PostO.of h2⟩
theorem dst_ret (he : DET cm W X e fe) : DST cm W X (.Return (some e) pos) (sRet fe) := pstI (CwR.pst_ret he) fun D s H h => by
  obtain ⟨m, p, st, re, rs, h⟩ := h
  exact ⟨m, p, st, re, rs, PostS.split re rs h fun d st1 m1 H1 v e1 x1 rs1 r1 h1 => h1 m1 H1 v Ext.refl rs1 r1⟩
theorem dsst_cons (h1 : DST cm W X s1 f) (h2 : DSsT cm W X ss g) : DSsT cm W X (s1 :: ss) (sSeq f g) := psstI (psst_cons h1 h2) fun D s H h => by
  obtain ⟨m, p, st, re, rs, h⟩ := h
  exact ⟨m, p, st, re, rs, seq_post h⟩
theorem dsst_one (h1 : DST cm W X s1 f) : DSsT cm W X [s1] f := CwR.psst_one h1
/-- e.replace(y, z), written texts -/
theorem det_repl {y z : Str} {j k : Nat} {c0 c1 apos : Pos} (he : DE cm W X e fe) (hyz : (y == z) = false := by decide)
    (hst : starEach [.Constant (.str y) j c0, .Constant (.str z) k c1] X.env = [(false, eval (.Constant (.str y) j c0) X.env), (false, eval (.Constant (.str z) k c1) X.env)] := by rfl)
    (hbase : attributeBase e "replace" X.env (eval e X.env) = eval e X.env := by rfl) (hline : (apos.endLine == pos.line) = true := by rfl) :
    DET cm W X (.Call (.Attribute e "replace" apos) [.Constant (.str y) j c0, .Constant (.str z) k c1] [] pos) (eUn (replF y z) fe) :=
  petI (CwR.pet_replC he hyz hst hbase hline) fun s H Q h => by
    obtain ⟨m, p, st, re, rs, h⟩ := h
    refine ⟨m, p, st, re, rs, Post.split h fun d st1 m1 H1 v1 e1 x1 rs1 r1 h1 => ?_⟩
    have g1 := PostO.of h1
    clear h1
    cases d with
    | str x =>
      simp only [RV] at r1
      subst r1
      simp only [replF] at g1
      split at g1
      · rename_i hz
        exact ⟨x, rfl, hz, g1 m1 H1 _ Ext.refl rs1 (by simp [RV])⟩
      · exact g1.elim
    | _ => exact g1.elim
/-- [written text, ..]: a token is out behind it -/
theorem de1_lst {c : Str} {j : Nat} {cp : Pos} (ha : DA cm W X es fs) : DE1 cm W X (.List (.Constant (.str c) j cp :: es) pos) (eB mkLst (aCons (eC (.str c)) fs)) := by
  intro pins s σ H Q I h
  have h := lst_split h
  have h2 : LiftA cm X.K W fs σ H fun xs H1 => (V.str c :: xs).length ≤ sizeLine ∧ ∀ p, H1 p = none → Q (.ref p) (upd H1 p (.lst (V.str c :: xs))) := by
    obtain ⟨m, p, st, re, rs, h⟩ := h
    refine ⟨m, p, st, re, rs, Post.split (rel := RVs X.K) (by exact h) fun d2 st2 m2 H2 v2 e2 x2 rs2 r2 q2 => ?_⟩
    exact q2 m2 H2 _ Ext.refl rs2 (RVs.cons (v := V.str c) (by simp [RV]) r2)
  refine wpAny_List_spliced ?_
  show wpAny _ _ (spliced ((false, eval (.Constant (.str c) j cp) X.env) :: backTo pos (starEach es X.env))) _ _ s
  refine Calls.spliced_cons (Calls.Constant_str ?_)
  refine wpAny_mono (PySem.wpAny_toks (ha.run pos pins { s with toks := s.toks + 1 } σ H _ (I.tok _) h2)) (fun us s1 q => ?_) fun _ _ z => z.2
  obtain ⟨hk, xs, H1, I1, r, z, q⟩ := q
  have hk : s.toks + 1 ≤ s1.toks := hk
  have rr : Vals (V.str c :: xs) (Value.str c s.toks :: us) := .cons ⟨_, rfl⟩ r
  refine ⟨by rw [← rr.length]; exact z, ⟨.ref s1.heap.objs.size, upd H1 s1.heap.objs.size (.lst (V.str c :: xs)), I1.laid (t' := s1.toks) (fun b u e => Heap.get?_push_of_some _ e) (Nat.le_refl _) ?_, rfl, q _ (I1.hok.fresh (Nat.le_refl _))⟩, by show 1 ≤ s1.toks; omega⟩
  exact ⟨z, _, 0, rr, Heap.get?_push_size _ rfl⟩
/-- a name is bound to what brings a token out -/
theorem dss_tok {i : Nat} {x : Str} {pos' : Pos} (hN : X.N.Nodup) (he : DE1 cm W X e fe) (h2 : DSsT cm W X ss g) (hi : X.N[i]? = some x := by rfl) (hx : Loc X.env.scope x := by first | exact Or.inl rfl | exact Or.inr rfl)
    (hs : swapsWith e (some (.Name x pos')) pos.line X.env = pure false := by rfl) (hf : X.fn x = true ∨ X.env.scope.names.lookup x = some .local := by first | exact .inl rfl | exact .inr rfl | assumption) :
    DSs cm W X (.Assign [.Name x pos'] e pos :: ss) (sSeq (sAsg fe (gNameF i)) g) := by
  refine ⟨fun pins s σ H D I h => ?_⟩
  obtain ⟨m, p, st, re, rs, h⟩ := h
  have h3 := seq_post h
  have hL : LiftE cm X.K W fe σ H fun y H1 => LiftS cm X.K W g D (σ.set i (some y)) H1 := by
    refine ⟨m, p, st, re, rs, PostS.split re rs h3 fun d st1 m1 H1 v e1 x1 rs1 r1 h1 => ?_⟩
    exact h1 m1 H1 _ Ext.refl rs1 ((re.ext rs x1).set (by rw [I.len]; exact (List.getElem?_eq_some_iff.mp hi).1) r1)
  refine wpAny_execs_cons (wpAny_Assign_Name (wpAny_mono (he pins s σ H _ I hL) (fun v s1 q => ?_) fun _ _ z => z) hs)
  obtain ⟨⟨y, H1, I1, r1, q1⟩, hk⟩ := q
  refine wpAny_mono (PySem.wpAny_toks (store_ok (Q := fun _ s2 => Inv X pins (σ.set i (some y)) H1 s2) I1 hN hi hx r1 (fun _ I2 => I2) hf)) (fun _ s2 q => ?_) fun _ _ z => z.2
  exact h2 pins s2 _ H1 D (Nat.le_trans hk q.1) q.2 q1
end
end Mi
set_option Elab.async false
set_option linter.all false
set_option maxRecDepth 100000
set_option maxHeartbeats 4000000
/-! Mp0: what a function over plain data answers. -/
namespace Mi
open PySem
/-- r ends well, and Q holds then; or in an error, and Y holds then -/
def EvX {α : Type} (Y : Exc → Store → Prop) (r : R α) (Q : α → Store → Prop) : Prop := match r with
  | .ok a st => Q a st
  | .exc e st => Y e st
  | .bad => False
/-- r ends well, and Q holds then -/
abbrev Ev {α : Type} (r : R α) (Q : α → Store → Prop) : Prop := EvX (fun _ _ => False) r Q
def EvO {α : Type} (r : Option (α × Store)) (Q : α → Store → Prop) : Prop := match r with
  | some (a, st) => Q a st
  | none => False
/-- where a statement may end -/
structure En where
  nx : Rho → Store → Prop
  rt : D → Store → Prop := fun _ _ => False
  bk : Rho → Store → Prop := fun _ _ => False
  ct : Rho → Store → Prop := fun _ _ => False
  xc : Exc → Rho → Store → Prop := fun _ _ _ => False
def EvS (r : SR) (E : En) : Prop := match r with
  | .nx p st => E.nx p st
  | .rt d st => E.rt d st
  | .bk p st => E.bk p st
  | .ct p st => E.ct p st
  | .xc e p st => E.xc e p st
  | .bad => False
section
variable {α β : Type} {Q Q' : α → Store → Prop} {p : Rho} {st : Store} {E : En} {Y : Exc → Store → Prop}
theorem EvX.mono {r : R α} (h : EvX Y r Q) (k : ∀ a st, Q a st → Q' a st) : EvX Y r Q' := by
  cases r with
  | ok a st => exact k a st h
  | exc _ _ => exact h
  | bad => exact h
theorem EvX.imp {Y' : Exc → Store → Prop} {r : R α} (h : EvX Y r Q) (k : ∀ a st, Q a st → Q' a st) (y : ∀ e st, Y e st → Y' e st) : EvX Y' r Q' := by
  cases r with
  | ok a st => exact k a st h
  | exc e st => exact y e st h
  | bad => exact h
theorem Ev.toX {r : R α} (h : Ev r Q) : EvX Y r Q := EvX.imp h (fun _ _ q => q) fun _ _ z => z.elim
theorem Ev.mono {r : R α} (h : Ev r Q) (k : ∀ a st, Q a st → Q' a st) : Ev r Q' := by
  cases r with
  | ok a st => exact k a st h
  | exc _ _ => exact h
  | bad => exact h
theorem Ev.get {r : R α} (h : Ev r Q) : ∃ a st, r = .ok a st ∧ Q a st := by
  cases r with
  | ok a st => exact ⟨a, st, rfl, h⟩
  | exc _ _ => exact h.elim
  | bad => exact h.elim
theorem EvS.mono {r : SR} {E' : En} (h : EvS r E) (k1 : ∀ p st, E.nx p st → E'.nx p st) (k2 : ∀ d st, E.rt d st → E'.rt d st) (k3 : ∀ p st, E.bk p st → E'.bk p st := by intro _ _ h; exact h) (k4 : ∀ p st, E.ct p st → E'.ct p st := by intro _ _ h; exact h) (k5 : ∀ e p st, E.xc e p st → E'.xc e p st := by intro _ _ _ h; exact h) : EvS r E' := by
  cases r with
  | nx p st => exact k1 p st h
  | rt d st => exact k2 d st h
  | bk p st => exact k3 p st h
  | ct p st => exact k4 p st h
  | xc e p st => exact k5 e p st h
  | bad => exact h
theorem ev_okX (a : α) : EvX Y (.ok a st) Q = Q a st := rfl
/-- for rw, where the goal says Ev -/
theorem ev_ok (a : α) : Ev (.ok a st) Q = Q a st := rfl
theorem ev_bind (r : R α) (f : α → Store → R β) (Q : β → Store → Prop) : EvX Y (bindR r f) Q = EvX Y r fun a st => EvX Y (f a st) Q := by cases r <;> rfl
theorem ev_optR (o : Option (α × Store)) : EvX Y (optR o) Q = EvO o Q := by
  cases o with
  | none => rfl
  | some x => rfl
theorem evo_some (a : α) : EvO (some (a, st)) Q = Q a st := rfl
theorem evo_alloc {Q : D → Store → Prop} (o : O) : EvO (alloc o st) Q = Q (.ref st.length) (st ++ [o]) := rfl
/-! expressions -/
theorem ev_c {Q : D → Store → Prop} (d : D) : EvX Y (eC d p st) Q = Q d st := rfl
theorem ev_var {Q : D → Store → Prop} {i : Nat} {d : D} (h : p[i]? = some (some d)) : EvX Y (eVar i p st) Q = Q d st := by unfold eVar; rw [h]; rfl
theorem ev_v {Q : D → Store → Prop} (i : Nat) : EvX Y (eVar i p st) Q = (match p[i]? with | some (some d) => Q d st | _ => False) := by
  unfold eVar
  cases p[i]? with
  | none => rfl
  | some o => cases o <;> rfl
theorem ev_op {Q : D → Store → Prop} (g : D → D → Store → Option (D × Store)) (a b : EF) : EvX Y (eOp g a b p st) Q = EvX Y (a p st) fun x st1 => EvX Y (b p st1) fun y st2 => EvO (g x y st2) Q := by
  simp only [eOp, ev_bind, ev_optR]
theorem ev_un {Q : D → Store → Prop} (g : D → Store → Option (D × Store)) (a : EF) : EvX Y (eUn g a p st) Q = EvX Y (a p st) fun x st1 => EvO (g x st1) Q := by
  simp only [eUn, ev_bind, ev_optR]
theorem ev_bl {Q : Bool → Store → Prop} (b : Bool) : EvX Y (blR (.bl b) st) Q = Q b st := rfl
theorem ev_val {Q : Bool → Store → Prop} (a : EF) : EvX Y (tVal a p st) Q = EvX Y (a p st) fun x st1 => EvX Y (blR x st1) Q := by simp only [tVal, ev_bind]
theorem ev_tnot {Q : Bool → Store → Prop} (a : TF1) : EvX Y (tNotF a p st) Q = EvX Y (a p st) fun b st1 => Q (!b) st1 := by simp only [tNotF, ev_bind, ev_okX]
theorem ev_tand {Q : Bool → Store → Prop} (a b : TF1) : EvX Y (tAndF a b p st) Q = EvX Y (a p st) fun x st1 => if x = true then EvX Y (b p st1) Q else Q false st1 := by
  simp only [tAndF, ev_bind]; congr; funext x st1; cases x <;> rfl
theorem ev_tor {Q : Bool → Store → Prop} (a b : TF1) : EvX Y (tOrF a b p st) Q = EvX Y (a p st) fun x st1 => if x = true then Q true st1 else EvX Y (b p st1) Q := by
  simp only [tOrF, ev_bind]; congr; funext x st1; cases x <;> rfl
theorem ev_not {Q : D → Store → Prop} (a : EF) : EvX Y (eNot a p st) Q = EvX Y (a p st) fun x st1 => EvX Y (blR x st1) fun b st2 => Q (.bl (!b)) st2 := by simp only [eNot, ev_bind, ev_val, ev_okX]
theorem ev_and {Q : D → Store → Prop} (a b : EF) : EvX Y (eAnd a b p st) Q = EvX Y (a p st) fun x st1 => EvX Y (blR x st1) fun k st2 => if k = true then EvX Y (b p st2) Q else Q (.bl false) st2 := by
  simp only [eAnd, ev_bind, ev_val]; congr; funext x st1; congr; funext k st2; cases k <;> rfl
theorem ev_or {Q : D → Store → Prop} (a b : EF) : EvX Y (eOr a b p st) Q = EvX Y (a p st) fun x st1 => EvX Y (blR x st1) fun k st2 => if k = true then Q (.bl true) st2 else EvX Y (b p st2) Q := by
  simp only [eOr, ev_bind, ev_val]; congr; funext x st1; congr; funext k st2; cases k <;> rfl
theorem ev_if {Q : D → Store → Prop} (t : TF1) (a b : EF) : EvX Y (eIf t a b p st) Q = EvX Y (t p st) fun x st1 => if x = true then EvX Y (a p st1) Q else EvX Y (b p st1) Q := by
  simp only [eIf, ev_bind]; congr; funext x st1; cases x <;> rfl
theorem ev_chain {Q : D → Store → Prop} (g g' : D → D → Store → Option (D × Store)) (a b c : EF) : EvX Y (eChain g g' a b c p st) Q = EvX Y (a p st) fun x st1 => EvX Y (b p st1) fun y st2 => EvO (g x y st2) fun z st3 => EvX Y (blR z st3) fun k st4 =>
    if k = true then EvX Y (c p st4) fun w st5 => EvO (g' y w st5) Q else Q (.bl false) st4 := by
  simp only [eChain, ev_bind, ev_optR]; congr; funext x st1; congr; funext y st2; congr; funext z st3; congr; funext k st4; cases k <;> simp [ev_bind, ev_optR, ev_okX]
theorem ev_nil {Q : List D → Store → Prop} : EvX Y (aNil p st) Q = Q [] st := rfl
theorem ev_cons {Q : List D → Store → Prop} (a : EF) (r : AF) : EvX Y (aCons a r p st) Q = EvX Y (a p st) fun x st1 => EvX Y (r p st1) fun xs st2 => Q (x :: xs) st2 := by simp only [aCons, ev_bind, ev_okX]
theorem ev_b {Q : D → Store → Prop} (g : List D → Store → Option (D × Store)) (a : AF) : EvX Y (eB g a p st) Q = EvX Y (a p st) fun xs st1 => EvO (g xs st1) Q := by simp only [eB, ev_bind, ev_optR]
theorem ev_call {Q : D → Store → Prop} (F : FnF) (a : AF) : EvX Y (eCall F a p st) Q = EvX Y (a p st) fun xs st1 => EvX Y (F xs st1) Q := by simp only [eCall, ev_bind]
theorem ev_callK {Q : D → Store → Prop} (F : FnF) (g : {α : Type} → List α → List α) (a : AF) : EvX Y (eCallK F g a p st) Q = EvX Y (a p st) fun xs st1 => EvX Y (F (g xs) st1) Q := by simp only [eCallK, ev_bind]
theorem ev_none {Q : Option Int → Store → Prop} : EvX Y (oNone p st) Q = Q none st := rfl
theorem ev_some {Q : Option Int → Store → Prop} (a : EF) : EvX Y (oSome a p st) Q = EvX Y (a p st) fun d st1 => (match d with | .int i => Q (some i) st1 | _ => False) := by
  simp only [oSome, ev_bind]; congr; funext d st1; cases d <;> rfl
theorem ev_sl {Q : D → Store → Prop} (g : D → Option Int → Option Int → Store → Option (D × Store)) (a : EF) (lo hi : OF) : EvX Y (eSl g a lo hi p st) Q = EvX Y (a p st) fun x st1 => EvX Y (lo p st1) fun l st2 => EvX Y (hi p st2) fun h st3 => EvO (g x l h st3) Q := by
  simp only [eSl, ev_bind, ev_optR]
theorem ev_mt {Q : D → Store → Prop} (T : String) (g : D → List D → Store → Option (D × Store)) (o : EF) (a : AF) : EvX Y (eMt T g o a p st) Q = EvX Y (o p st) fun x st1 => tyD T x st1 ∧ EvX Y (a p st1) fun xs st2 => EvO (g x xs st2) Q := by
  simp only [eMt, ev_bind]; congr; funext x st1
  split
  · rename_i h; simp [h, ev_bind, ev_optR]
  · rename_i h; simp only [h, false_and]; rfl
theorem ev_knil {Q : List (L2.Key × D) → Store → Prop} : EvX Y (kNil p st) Q = Q [] st := rfl
theorem ev_kcons {Q : List (L2.Key × D) → Store → Prop} (k : L2.Key) (a : EF) (r : KF) : EvX Y (kCons k a r p st) Q = EvX Y (a p st) fun d st1 => EvX Y (r p st1) fun kvs st2 => Q ((k, d) :: kvs) st2 := by simp only [kCons, ev_bind, ev_okX]
theorem ev_dic {Q : D → Store → Prop} (f : KF) : EvX Y (eDic f p st) Q = EvX Y (f p st) fun kvs st1 => EvO (mkDic kvs st1) Q := by simp only [eDic, ev_bind, ev_optR]
/-! statements -/
theorem evs_bind (r : R α) (f : α → Store → SR) : EvS (bindS p r f) E = EvX (fun e st => E.xc e p st) r fun a st => EvS (f a st) E := by cases r <;> rfl
theorem evs_nil : EvS (sNil p st) E = E.nx p st := rfl
theorem evs_seq (a b : SF) : EvS (sSeq a b p st) E = EvS (a p st) { E with nx := fun p1 st1 => EvS (b p1 st1) E } := by unfold sSeq; cases a p st <;> rfl
theorem evs_ret (a : EF) : EvS (sRet a p st) E = EvX (fun e st => E.xc e p st) (a p st) E.rt := by simp only [sRet, evs_bind]; rfl
theorem evs_retN : EvS (sRetN p st) E = E.rt .non st := rfl
theorem evs_expr (a : EF) : EvS (sExpr a p st) E = EvX (fun e st => E.xc e p st) (a p st) fun _ st1 => E.nx p st1 := by simp only [sExpr, evs_bind]; rfl
theorem evs_if (t : TF1) (a b : SF) : EvS (sIf t a b p st) E = EvX (fun e st => E.xc e p st) (t p st) fun x st1 => if x = true then EvS (a p st1) E else EvS (b p st1) E := by
  simp only [sIf, evs_bind]; congr; funext x st1; cases x <;> rfl
theorem evs_asg (a : EF) (g : TgF) : EvS (sAsg a g p st) E = EvX (fun e st => E.xc e p st) (a p st) fun d st1 => (match g d p st1 with | some p1 => E.nx p1 st1 | none => False) := by
  simp only [sAsg, evs_bind]; congr; funext d st1; cases g d p st1 <;> rfl
theorem evs_set (a : EF) (i : Nat) : EvS (sAsg a (gNameF i) p st) E = EvX (fun e st => E.xc e p st) (a p st) fun d st1 => E.nx (p.set i (some d)) st1 := by rw [evs_asg]; rfl
theorem evs_par2 (i j : Nat) (a : AF) : EvS (sPar2 i j a p st) E = EvX (fun e st => E.xc e p st) (a p st) fun ds st1 => (match ds with | [d, e] => E.nx ((p.set i (some d)).set j (some e)) st1 | _ => False) := by
  simp only [sPar2, evs_bind]; congr; funext ds st1; rcases ds with _ | ⟨d, _ | ⟨e, _ | ⟨f, r⟩⟩⟩ <;> rfl
theorem evs_par3 (i j k : Nat) (a : AF) : EvS (sPar3 i j k a p st) E = EvX (fun e st => E.xc e p st) (a p st) fun ds st1 => (match ds with | [d, e, f] => E.nx (((p.set i (some d)).set j (some e)).set k (some f)) st1 | _ => False) := by
  simp only [sPar3, evs_bind]; congr; funext ds st1; rcases ds with _ | ⟨d, _ | ⟨e, _ | ⟨f, _ | ⟨g, r⟩⟩⟩⟩ <;> rfl
theorem evs_sub (o i a : EF) : EvS (sSub o i a p st) E = EvX (fun e st => E.xc e p st) (a p st) fun d st1 => EvX (fun e st => E.xc e p st) (o p st1) fun od st2 => EvX (fun e st => E.xc e p st) (i p st2) fun id st3 => (match setItemF od id d st3 with | some st4 => E.nx p st4 | none => False) := by
  simp only [sSub, evs_bind]; congr; funext d st1; congr; funext od st2; congr; funext id st3; cases setItemF od id d st3 <;> rfl
theorem evs_match (a : EF) (c : D → SF) : EvS (sMatch a c p st) E = EvX (fun e st => E.xc e p st) (a p st) fun d st1 => EvS (c d p st1) E := by simp only [sMatch, evs_bind]
theorem evs_mnil (d : D) : EvS (mcNil d p st) E = E.nx p st := rfl
theorem evs_mcons (f : PtF) (ix : List Nat) (b : SF) (r : D → SF) (d : D) : EvS (mcCons f ix b r d p st) E = (match f d st with | none => False | some none => EvS (r d p st) E | some (some ds) => EvS (b (setAll p ix ds) st) E) := by
  unfold mcCons
  cases f d st with
  | none => rfl
  | some o => cases o <;> rfl
theorem evs_for (fi : IF) (tg : TgF) (body : SF) : EvS (sFor fi tg body p st) E = EvX (fun e st => E.xc e p st) (fi p st) fun it st1 => EvS (forGo it.still tg body it.items p st1) E := by simp only [sFor, evs_bind]
theorem ev_run {Q : D → Store → Prop} (n : Nat) (body : SF) (ds : List D) : EvX Y (runD n body ds st) Q = EvS (body (ds.map some ++ List.replicate (n - ds.length) none) st) { nx := fun _ st' => Q .non st', rt := Q, xc := fun e _ st' => Y e st' } := by
  unfold runD
  cases body (ds.map some ++ List.replicate (n - ds.length) none) st <;> rfl
theorem ev_iseq {Q : IT → Store → Prop} (a : EF) : EvX Y (iSeq a p st) Q = EvX Y (a p st) fun d st1 => EvX Y (itOf d st1) Q := by simp only [iSeq, ev_bind]
theorem ev_lc {Q : D → Store → Prop} (fi : IF) (own : List Nat) (tg : TgF) (tt : TF1) (te : EF) : EvX Y (eLC fi own tg tt te p st) Q = EvX Y (fi p st) fun it st1 => EvX Y (compGo it.still tg tt te (wipeR p own) it.items st1) fun ys st2 => EvO (mkLst ys st2) Q := by
  simp only [eLC, ev_bind, ev_optR]
theorem ev_yes {Q : Bool → Store → Prop} : EvX Y (tYesF p st) Q = Q true st := rfl
theorem ev_range1 {Q : IT → Store → Prop} (a : AF) : EvX Y (iRange1 a p st) Q = EvX Y (a p st) fun xs st1 => (match xs with | [.int n] => (-(2 ^ 62) ≤ n ∧ n < 2 ^ 62) ∧ Q ⟨rgItems 0 n.toNat, fun _ => True⟩ st1 | _ => False) := by
  simp only [iRange1, ev_bind]; congr; funext xs st1
  rcases xs with _ | ⟨d, _ | ⟨e, r⟩⟩
  · rfl
  · cases d with
    | int n =>
      dsimp only
      split
      · rename_i h; simp only [ev_okX, h, and_self, true_and]
      · rename_i h; simp only [h, false_and]; rfl
    | _ => rfl
  · cases d <;> rfl
theorem ev_enum {Q : IT → Store → Prop} (a : AF) : EvX Y (iEnumF a p st) Q = EvX Y (a p st) fun xs st1 => (match xs with | [.ref l] => (match st1[l]? with | some (.lst ds) => Q ⟨enItems ds, fun st' => st'[l]? = some (.lst ds)⟩ st1 | _ => False) | _ => False) := by
  simp only [iEnumF, ev_bind]; congr; funext xs st1
  rcases xs with _ | ⟨d, _ | ⟨e, r⟩⟩
  · rfl
  · cases d with
    | ref l =>
      dsimp only
      cases st1[l]? with
      | none => rfl
      | some o => cases o <;> rfl
    | _ => rfl
  · cases d <;> rfl
/-! loops -/
theorem evs_forGo {still : Store → Prop} {tg : TgF} {body : SF} (I : Nat → Rho → Store → Prop) : ∀ (items : List D) (j : Nat) (p : Rho) (st : Store), I j p st → (∀ i p st, j ≤ i → i ≤ j + items.length → I i p st → still st) →
    (∀ i d p st, j ≤ i → items[i - j]? = some d → I i p st → ∃ p1, tg d p st = some p1 ∧ EvS (body p1 st) { nx := I (i + 1), ct := I (i + 1), bk := E.nx, rt := E.rt, xc := E.xc }) → (∀ p st, I (j + items.length) p st → E.nx p st) → EvS (forGo still tg body items p st) E
  | [], j, p, st, h0, hs, hb, hn => by
    unfold forGo
    rw [if_pos (hs j p st (Nat.le_refl _) (Nat.le_add_right _ _) h0)]
    exact hn p st h0
  | d :: ds, j, p, st, h0, hs, hb, hn => by
    unfold forGo
    rw [if_pos (hs j p st (Nat.le_refl _) (Nat.le_add_right _ _) h0)]
    obtain ⟨p1, e, h1⟩ := hb j d p st (Nat.le_refl _) (by simp) h0
    rw [e]
    dsimp only
    have go : ∀ p st, I (j + 1) p st → EvS (forGo still tg body ds p st) E := fun p st h => evs_forGo I ds (j + 1) p st h (fun i p st a b => hs i p st (by omega) (by simp only [List.length_cons]; omega))
      (fun i d p st a b => hb i d p st (by omega) (by
        have : i - j = (i - (j + 1)) + 1 := by omega
        rw [this, List.getElem?_cons_succ]; exact b)) (fun p st h => hn p st (by
        have : j + (d :: ds).length = j + 1 + ds.length := by rw [List.length_cons]; omega
        rw [this]; exact h))
    cases q : body p1 st with
    | nx p2 st2 => rw [q] at h1; exact go _ _ h1
    | ct p2 st2 => rw [q] at h1; exact go _ _ h1
    | bk p2 st2 => rw [q] at h1; exact h1
    | rt d st2 => rw [q] at h1; exact h1
    | xc e p2 st2 => rw [q] at h1; exact h1
    | bad => rw [q] at h1; exact h1.elim
theorem ev_noX {r : R α} : EvX Y (noX r) Q = Ev r Q := by cases r <;> rfl
/-- a comprehension, by what holds after each turn -/
theorem ev_comp {still : Store → Prop} {tg : TgF} {tt : TF1} {te : EF} {Q : List D → Store → Prop} (I : Nat → List D → Store → Prop) : ∀ (items : List D) (j : Nat) (acc : List D) (st : Store), I j acc st → (∀ i acc st, j ≤ i → i ≤ j + items.length → I i acc st → still st) →
    (∀ i d acc st, j ≤ i → items[i - j]? = some d → I i acc st → ∃ p1, tg d p st = some p1 ∧ Ev (tt p1 st) fun b st1 => if b = true then Ev (te p1 st1) fun y st2 => I (i + 1) (acc ++ [y]) st2 else I (i + 1) acc st1) →
    (∀ ys st, I (j + items.length) (acc ++ ys) st → Q ys st) → Ev (compGo still tg tt te p items st) Q
  | [], j, acc, st, h0, hs, hb, hn => by
    unfold compGo
    rw [if_pos (hs j acc st (Nat.le_refl _) (Nat.le_add_right _ _) h0)]
    exact hn [] st (by simpa using h0)
  | d :: ds, j, acc, st, h0, hs, hb, hn => by
    unfold compGo
    rw [if_pos (hs j acc st (Nat.le_refl _) (Nat.le_add_right _ _) h0)]
    obtain ⟨p1, e, h1⟩ := hb j d acc st (Nat.le_refl _) (by simp) h0
    rw [e]
    dsimp only
    have len : j + (d :: ds).length = j + 1 + ds.length := by rw [List.length_cons]; omega
    have go : ∀ acc' st', I (j + 1) acc' st' → ∀ {Q' : List D → Store → Prop}, (∀ ys st, I (j + 1 + ds.length) (acc' ++ ys) st → Q' ys st) → Ev (compGo still tg tt te p ds st') Q' := fun acc' st' h Q' k =>
      ev_comp I ds (j + 1) acc' st' h (fun i a st x y => hs i a st (by omega) (by simp only [List.length_cons]; omega))
        (fun i d a st x b => hb i d a st (by omega) (by
          have : i - j = (i - (j + 1)) + 1 := by omega
          rw [this, List.getElem?_cons_succ]; exact b)) k
    show EvX _ _ _
    rw [ev_bind, ev_noX]
    refine h1.mono fun b st1 h2 => ?_
    cases b with
    | true =>
      rw [if_pos rfl] at h2 ⊢
      show EvX _ _ _
      rw [ev_bind, ev_noX]
      refine h2.mono fun y st2 h3 => ?_
      show EvX _ _ _
      rw [ev_bind]
      refine go _ _ h3 fun ys st h4 => hn (y :: ys) st ?_
      rw [len]
      simpa using h4
    | false =>
      rw [if_neg (by simp)] at h2 ⊢
      exact go _ _ h2 fun ys st h4 => hn ys st (by rw [len]; exact h4)
/-- a comprehension that leaves the store alone -/
theorem ev_compP {still : Store → Prop} {tg : TgF} {tt : TF1} {te : EF} {Q : List D → Store → Prop} (f : D → Bool) (g : D → D) {items : List D} (hs : still st) (hb : ∀ d ∈ items, ∃ p1, tg d p st = some p1 ∧ tt p1 st = .ok (f d) st ∧ (f d = true → te p1 st = .ok (g d) st))
    (h : Q ((items.filter f).map g) st) : Ev (compGo still tg tt te p items st) Q := by
  have key : ∀ items : List D, (∀ d ∈ items, ∃ p1, tg d p st = some p1 ∧ tt p1 st = .ok (f d) st ∧ (f d = true → te p1 st = .ok (g d) st)) → compGo still tg tt te p items st = .ok ((items.filter f).map g) st := by
    intro items
    induction items with
    | nil => intro _; unfold compGo; rw [if_pos hs]; rfl
    | cons d ds ih =>
      intro hb
      have ih := ih fun d hd => hb d (List.mem_cons_of_mem _ hd)
      obtain ⟨p1, e1, e2, e3⟩ := hb d List.mem_cons_self
      unfold compGo
      rw [if_pos hs, e1]
      dsimp only
      rw [e2]
      simp only [noX, bindR]
      cases hf : f d with
      | true => rw [if_pos rfl, e3 hf, List.filter_cons_of_pos hf]; simp only [noX, bindR, ih, List.map_cons]
      | false => rw [if_neg (by simp), ih, List.filter_cons_of_neg (by simp [hf])]
  rw [key items hb]
  exact h
end
end Mi
set_option Elab.async false
set_option linter.all false
set_option maxRecDepth 100000
set_option maxHeartbeats 4000000
/-! Mp1: whole values in a store of which some places change. -/
namespace Mi
open PySem
/-- the store without the places that change -/
def look (L : List Nat) (st : Store) (l : Nat) : Option O := if l ∈ L then none else st[l]?
/-- all but the places L stands as it stood -/
def Grow (L : List Nat) (st st' : Store) : Prop := st.length ≤ st'.length ∧ ∀ l o, l ∉ L → st[l]? = some o → st'[l]? = some o
section
variable {L : List Nat} {st st' st'' : Store}
theorem Grow.refl : Grow L st st := ⟨Nat.le_refl _, fun _ _ _ h => h⟩
theorem Grow.trans (a : Grow L st st') (b : Grow L st' st'') : Grow L st st'' := ⟨Nat.le_trans a.1 b.1, fun l o h e => b.2 l o h (a.2 l o h e)⟩
theorem Grow.app (x : List O) : Grow L st (st ++ x) := ⟨by simp, fun l o _ h => by rw [List.getElem?_append_left (List.getElem?_eq_some_iff.mp h).1]; exact h⟩
theorem Grow.set {l : Nat} (o : O) (h : l ∈ L) : Grow L st (st.set l o) := ⟨by simp, fun i u hi e => by rw [List.getElem?_set_ne (fun q : l = i => hi (by rw [← q]; exact h))]; exact e⟩
theorem Grow.set' {l : Nat} (o : O) (hl : st[l]? = none) : Grow L st (st.set l o) := by
  rw [List.set_eq_of_length_le (List.getElem?_eq_none_iff.mp hl)]; exact Grow.refl
theorem Grow.weak {L' : List Nat} (h : ∀ l ∈ L, l ∈ L') (g : Grow L st st') : Grow L' st st' := ⟨g.1, fun l o hl e => g.2 l o (fun q => hl (h l q)) e⟩
theorem Grow.look (g : Grow L st st') {l : Nat} {o : O} (h : look L st l = some o) : Mi.look L st' l = some o := by
  unfold Mi.look at h ⊢
  split at h
  · cases h
  · rename_i hl; rw [if_neg hl]; exact g.2 l o hl h
end
/-- the whole value, at most n deep, none of the script -/
def datM : Nat → (Nat → Option O) → D → Option PyData
  | 0, _, _ => none
  | n + 1, m, d => match d with
    | .non => some .none
    | .bl b => some (.bool b)
    | .int i => some (.int i)
    | .str x => some (.str x)
    | .tup ds => (datL (datM n m) ds).map .tuple
    | .scr _ => none
    | .exn .. => none
    | .ref l => match m l with
      | some (.lst ds) => (datL (datM n m) ds).map .list
      | some (.dic kvs) => (datK (datM n m) kvs).map .dict
      | none => none
theorem datL_mono {f g : D → Option PyData} (h : ∀ d t, f d = some t → g d = some t) : ∀ {ds : List D} {ts : List PyData}, datL f ds = some ts → datL g ds = some ts
  | [], ts, e => e
  | d :: ds, ts, e => by
    simp only [datL] at e ⊢
    obtain ⟨t, e1, e⟩ := Option.bind_eq_some_iff.mp e
    obtain ⟨tr, e2, rfl⟩ := Option.map_eq_some_iff.mp e
    rw [h d t e1, Option.bind_some, datL_mono h e2]; rfl
theorem datK_mono {f g : D → Option PyData} (h : ∀ d t, f d = some t → g d = some t) : ∀ {ds : List (L2.Key × D)} {ts : List (PyData × PyData)}, datK f ds = some ts → datK g ds = some ts
  | [], ts, e => e
  | (k, d) :: ds, ts, e => by
    simp only [datK] at e ⊢
    obtain ⟨t, e1, e⟩ := Option.bind_eq_some_iff.mp e
    obtain ⟨tr, e2, rfl⟩ := Option.map_eq_some_iff.mp e
    rw [h d t e1, Option.bind_some, datK_mono h e2]; rfl
theorem datM_mono : ∀ {n k : Nat} {m m' : Nat → Option O} {d : D} {t : PyData}, n ≤ k → (∀ l o, m l = some o → m' l = some o) → datM n m d = some t → datM k m' d = some t
  | 0, _, _, _, _, _, _, _, e => by cases e
  | n + 1, 0, _, _, _, _, h, _, _ => by omega
  | n + 1, k + 1, m, m', d, t, hn, hm, e => by
    have ih : ∀ d t, datM n m d = some t → datM k m' d = some t := fun d t e => datM_mono (by omega) hm e
    cases d with
    | tup ds =>
      simp only [datM] at e ⊢
      obtain ⟨ts, e1, rfl⟩ := Option.map_eq_some_iff.mp e
      rw [datL_mono ih e1]; rfl
    | ref l =>
      simp only [datM] at e ⊢
      cases hl : m l with
      | none => rw [hl] at e; cases e
      | some o =>
        rw [hl] at e
        rw [hm l o hl]
        cases o with
        | lst ds =>
          obtain ⟨ts, e1, rfl⟩ := Option.map_eq_some_iff.mp e
          simp only [datL_mono ih e1]; rfl
        | dic kvs =>
          obtain ⟨ts, e1, rfl⟩ := Option.map_eq_some_iff.mp e
          simp only [datK_mono ih e1]; rfl
    | scr ns => cases e
    | exn => cases e
    | _ => exact e
theorem datN_of {L : List Nat} {st : Store} : ∀ {n : Nat} {d : D} {t : PyData}, datM n (look L st) d = some t → datN n st d = some t
  | 0, _, _, e => by cases e
  | n + 1, d, t, e => by
    have ih : ∀ d t, datM n (look L st) d = some t → datN n st d = some t := fun d t e => datN_of e
    cases d with
    | tup ds =>
      simp only [datM, datN] at e ⊢
      obtain ⟨ts, e1, rfl⟩ := Option.map_eq_some_iff.mp e
      rw [datL_mono ih e1]; rfl
    | ref l =>
      simp only [datM, datN] at e ⊢
      cases hl : look L st l with
      | none => rw [hl] at e; cases e
      | some o =>
        rw [hl] at e
        have hl' : st[l]? = some o := by
          unfold look at hl
          split at hl
          · cases hl
          · exact hl
        rw [hl']
        cases o with
        | lst ds =>
          obtain ⟨ts, e1, rfl⟩ := Option.map_eq_some_iff.mp e
          simp only [datL_mono ih e1]; rfl
        | dic kvs =>
          obtain ⟨ts, e1, rfl⟩ := Option.map_eq_some_iff.mp e
          simp only [datK_mono ih e1]; rfl
    | scr ns => cases e
    | exn => cases e
    | _ => exact e
theorem datN_mono {n k : Nat} {st : Store} {d : D} {t : PyData} (hn : n ≤ k) : ∀ {n k : Nat} {d : D} {t : PyData}, n ≤ k → datN n st d = some t → datN k st d = some t := by
  intro n
  induction n with
  | zero => intro k d t _ e; cases e
  | succ n ih =>
    intro k d t hk e
    cases k with
    | zero => omega
    | succ k =>
      have ih : ∀ d t, datN n st d = some t → datN k st d = some t := fun d t e => ih (by omega) e
      cases d with
      | tup ds =>
        simp only [datN] at e ⊢
        obtain ⟨ts, e1, rfl⟩ := Option.map_eq_some_iff.mp e
        rw [datL_mono ih e1]; rfl
      | ref l =>
        simp only [datN] at e ⊢
        cases hl : st[l]? with
        | none => rw [hl] at e; cases e
        | some o =>
          rw [hl] at e
          cases o with
          | lst ds =>
            obtain ⟨ts, e1, rfl⟩ := Option.map_eq_some_iff.mp e
            simp only [datL_mono ih e1]; rfl
          | dic kvs =>
            obtain ⟨ts, e1, rfl⟩ := Option.map_eq_some_iff.mp e
            simp only [datK_mono ih e1]; rfl
      | _ => exact e

/-! ### sizes -/
/-- bounds of leaves: ints below i, texts of at most s signs -/
structure Bd where
  i : Nat
  s : Nat
instance : LE Bd := ⟨fun a b => a.i ≤ b.i ∧ a.s ≤ b.s⟩
theorem Bd.le {B : Bd} : B ≤ B := ⟨Nat.le_refl _, Nat.le_refl _⟩
theorem Bd.tr {A B C : Bd} (h : A ≤ B) (h' : B ≤ C) : A ≤ C := ⟨Nat.le_trans h.1 h'.1, Nat.le_trans h.2 h'.2⟩
def b0 : Bd := ⟨10 ^ 40, 10⟩
def topB : Bd := ⟨10 ^ 50, 16777216⟩
def Bd.up (B : Bd) : Bd := ⟨B.i + 10 ^ 31, 9 * B.s + 60⟩
theorem Bd.le_up {B : Bd} : B ≤ B.up := ⟨Nat.le_add_right _ _, by show B.s ≤ 9 * B.s + 60; omega⟩
theorem b0_top : b0 ≤ topB := ⟨by decide +kernel, by decide⟩
mutual
/-- texts of ASCII, ints below B -/
def leafB (B : Bd) : PyData → Prop
  | .none | .bool _ => True
  | .int i => i.natAbs < B.i
  | .str x => (∀ c ∈ x.cps.toList, c < 128) ∧ x.length ≤ B.s
  | .list xs | .tuple xs => leafBs B xs
  | .dict kvs => leafBk B kvs
def leafBs (B : Bd) : List PyData → Prop
  | [] => True
  | x :: xs => leafB B x ∧ leafBs B xs
def leafBk (B : Bd) : List (PyData × PyData) → Prop
  | [] => True
  | (k, v) :: r => leafB B k ∧ leafB B v ∧ leafBk B r
end
mutual
theorem leafB_mono {B C : Bd} (h : B ≤ C) : ∀ t, leafB B t → leafB C t
  | .none, _ => trivial
  | .bool _, _ => trivial
  | .int i, q => Nat.lt_of_lt_of_le q h.1
  | .str x, q => ⟨q.1, Nat.le_trans q.2 h.2⟩
  | .list xs, q => leafBs_mono h xs q
  | .tuple xs, q => leafBs_mono h xs q
  | .dict kvs, q => leafBk_mono h kvs q
theorem leafBs_mono {B C : Bd} (h : B ≤ C) : ∀ t, leafBs B t → leafBs C t
  | [], _ => trivial
  | x :: xs, q => ⟨leafB_mono h x q.1, leafBs_mono h xs q.2⟩
theorem leafBk_mono {B C : Bd} (h : B ≤ C) : ∀ t, leafBk B t → leafBk C t
  | [], _ => trivial
  | (k, v) :: xs, q => ⟨leafB_mono h k q.1, leafB_mono h v q.2.1, leafBk_mono h xs q.2.2⟩
end
theorem int_short {i : Int} (h : i.natAbs < 10 ^ 50) : (Str.ofString (toString i)).length ≤ 60 := by
  have e := int_text_length_le10 (k := 50) (by decide) h
  rw [ofString_length]
  omega
theorem int_shows {i : Int} (h : i.natAbs < 10 ^ 50) : i.natAbs.log2 < 1920 := by
  have : i.natAbs < 2 ^ 1000 := Nat.lt_of_lt_of_le h (by decide +kernel)
  by_cases h0 : i.natAbs = 0
  · rw [h0]; decide
  · have := (Nat.log2_lt h0).mpr this
    omega
mutual
theorem leaf_short : ∀ t, leafB topB t → t.leavesShort 60 = true ∧ t.showable = true
  | .none, _ => ⟨rfl, rfl⟩
  | .bool _, _ => ⟨rfl, rfl⟩
  | .int i, q => ⟨by
      show decide ((PyData.shown (.int i)).length ≤ 60) = true
      exact decide_eq_true (int_short q), by simp only [PyData.showable, decide_eq_true_eq]; exact int_shows q⟩
  | .str x, q => ⟨by simp only [PyData.leavesShort, List.all_eq_true, decide_eq_true_eq]; exact fun c hc => Nat.lt_of_lt_of_le (q.1 c hc) (by decide), rfl⟩
  | .list xs, q => by
    have := leafs_short xs q
    exact ⟨by simpa only [PyData.leavesShort] using this.1, by simpa only [PyData.showable] using this.2⟩
  | .tuple xs, q => by
    have := leafs_short xs q
    exact ⟨by simpa only [PyData.leavesShort] using this.1, by simpa only [PyData.showable] using this.2⟩
  | .dict xs, q => by
    have := leafk_short xs q
    exact ⟨by simpa only [PyData.leavesShort] using this.1, by simpa only [PyData.showable] using this.2⟩
theorem leafs_short : ∀ t, leafBs topB t → PyData.leavesShortAll 60 t = true ∧ PyData.showableAll t = true
  | [], _ => ⟨rfl, rfl⟩
  | x :: xs, q => by
    have a := leaf_short x q.1
    have b := leafs_short xs q.2
    exact ⟨by simp only [PyData.leavesShortAll, a.1, b.1, Bool.and_self], by simp only [PyData.showableAll, a.2, b.2, Bool.and_self]⟩
theorem leafk_short : ∀ t, leafBk topB t → PyData.leavesShortKv 60 t = true ∧ PyData.showableKv t = true
  | [], _ => ⟨rfl, rfl⟩
  | (k, v) :: xs, q => by
    have a := leaf_short k q.1
    have c := leaf_short v q.2.1
    have b := leafk_short xs q.2.2
    exact ⟨by simp only [PyData.leavesShortKv, a.1, b.1, c.1, Bool.and_self], by simp only [PyData.showableKv, a.2, b.2, c.2, Bool.and_self]⟩
end
/-- a whole value: at most n deep, of weight w at most, its leaves below B -/
def Val (L : List Nat) (st : Store) (B : Bd) (n w : Nat) (d : D) : Prop := ∃ t, datM n (look L st) d = some t ∧ leafB B t ∧ t.weight ≤ w
def Vls (L : List Nat) (st : Store) (B : Bd) (n w : Nat) (ds : List D) : Prop := ∃ ts, datL (datM n (look L st)) ds = some ts ∧ leafBs B ts ∧ PyData.weightAll ts ≤ w
section
variable {L : List Nat} {st st' : Store} {B C : Bd} {n k w v : Nat} {d : D} {ds : List D}
theorem Val.mono (h : Val L st B n w d) (hB : B ≤ C) (hn : n ≤ k) (hw : w ≤ v) : Val L st C k v d := by
  obtain ⟨t, e, l, hw'⟩ := h
  exact ⟨t, datM_mono hn (fun _ _ h => h) e, leafB_mono hB t l, Nat.le_trans hw' hw⟩
theorem Val.grow (h : Val L st B n w d) (g : Grow L st st') : Val L st' B n w d := by
  obtain ⟨t, e, r⟩ := h
  exact ⟨t, datM_mono (Nat.le_refl _) (fun _ _ h => g.look h) e, r⟩
theorem Vls.grow (h : Vls L st B n w ds) (g : Grow L st st') : Vls L st' B n w ds := by
  obtain ⟨t, e, r⟩ := h
  exact ⟨t, datL_mono (fun _ _ q => datM_mono (Nat.le_refl _) (fun _ _ h => g.look h) q) e, r⟩
theorem Vls.mono (h : Vls L st B n w ds) (hB : B ≤ C) (hn : n ≤ k) (hw : w ≤ v) : Vls L st C k v ds := by
  obtain ⟨t, e, l, hw'⟩ := h
  exact ⟨t, datL_mono (fun _ _ q => datM_mono hn (fun _ _ h => h) q) e, leafBs_mono hB t l, Nat.le_trans hw' hw⟩
theorem Vls.nil : Vls L st B n w [] := ⟨[], rfl, trivial, Nat.zero_le _⟩
theorem Vls.cons (h : Val L st B n w d) (h' : Vls L st B n v ds) : Vls L st B n (w + 1 + v) (d :: ds) := by
  obtain ⟨t, e, l, hw⟩ := h
  obtain ⟨ts, e2, l2, hw2⟩ := h'
  exact ⟨t :: ts, by simp only [datL, e, e2]; rfl, ⟨l, l2⟩, by simp only [PyData.weightAll]; omega⟩
theorem Vls.inv (h : Vls L st B n w (d :: ds)) : ∃ a b, Val L st B n a d ∧ Vls L st B n b ds ∧ a + 1 + b ≤ w := by
  obtain ⟨ts, e, l, hw⟩ := h
  simp only [datL] at e
  obtain ⟨t, e1, e⟩ := Option.bind_eq_some_iff.mp e
  obtain ⟨tr, e2, rfl⟩ := Option.map_eq_some_iff.mp e
  exact ⟨t.weight, PyData.weightAll tr, ⟨t, e1, l.1, Nat.le_refl _⟩, ⟨tr, e2, l.2, Nat.le_refl _⟩, by simpa only [PyData.weightAll] using hw⟩
theorem Vls.append : ∀ {ds es : List D} {w v : Nat}, Vls L st B n w ds → Vls L st B n v es → Vls L st B n (w + v) (ds ++ es)
  | [], es, w, v, _, h' => h'.mono Bd.le (Nat.le_refl _) (by omega)
  | d :: ds, es, w, v, h, h' => by
    obtain ⟨a, b, h1, h2, hw⟩ := h.inv
    exact (Vls.cons h1 (Vls.append h2 h')).mono Bd.le (Nat.le_refl _) (by omega)
theorem Vls.split : ∀ (i : Nat) {ds : List D} {w : Nat}, Vls L st B n w ds → ∃ a b, Vls L st B n a (ds.take i) ∧ Vls L st B n b (ds.drop i) ∧ a + b ≤ w
  | 0, ds, w, h => ⟨0, w, by simpa using Vls.nil, by simpa using h, by omega⟩
  | i + 1, [], w, h => ⟨0, 0, by simpa using Vls.nil, by simpa using Vls.nil, by omega⟩
  | i + 1, d :: ds, w, h => by
    obtain ⟨a, b, h1, h2, hw⟩ := h.inv
    obtain ⟨c, e, h3, h4, hw2⟩ := Vls.split i h2
    exact ⟨a + 1 + c, e, by simpa using Vls.cons h1 h3, by simpa using h4, by omega⟩
theorem Vls.take (i : Nat) (h : Vls L st B n w ds) : Vls L st B n w (ds.take i) := by
  obtain ⟨a, b, h1, _, hw⟩ := h.split i
  exact h1.mono Bd.le (Nat.le_refl _) (by omega)
theorem Vls.drop (i : Nat) (h : Vls L st B n w ds) : Vls L st B n w (ds.drop i) := by
  obtain ⟨a, b, _, h1, hw⟩ := h.split i
  exact h1.mono Bd.le (Nat.le_refl _) (by omega)
theorem Vls.reverse : ∀ {ds : List D} {w : Nat}, Vls L st B n w ds → Vls L st B n w ds.reverse
  | [], w, h => h
  | d :: ds, w, h => by
    obtain ⟨a, b, h1, h2, hw⟩ := h.inv
    rw [List.reverse_cons]
    exact ((Vls.reverse h2).append (Vls.cons h1 (Vls.nil (w := 0)))).mono Bd.le (Nat.le_refl _) (by omega)
theorem Vls.get : ∀ {ds : List D} {w : Nat} {i : Nat}, Vls L st B n w ds → ds[i]? = some d → Val L st B n w d
  | [], w, i, _, e => by simp at e
  | d0 :: ds, w, i, h, e => by
    obtain ⟨a, b, h1, h2, hw⟩ := h.inv
    cases i with
    | zero => simp at e; subst e; exact h1.mono Bd.le (Nat.le_refl _) (by omega)
    | succ i => exact (Vls.get h2 (by simpa using e)).mono Bd.le (Nat.le_refl _) (by omega)
theorem Vls.len : ∀ {ds : List D} {w : Nat}, Vls L st B n w ds → ds.length ≤ w
  | [], w, _ => Nat.zero_le _
  | d0 :: ds, w, h => by
    obtain ⟨a, b, h1, h2, hw⟩ := h.inv
    have := Vls.len h2
    rw [List.length_cons]; omega
theorem val_tup (h : Vls L st B n w ds) : Val L st B (n + 1) w (.tup ds) := by
  obtain ⟨ts, e, l, hw⟩ := h
  exact ⟨.tuple ts, by simp only [datM, e]; rfl, l, hw⟩
theorem val_lst {l : Nat} (hl : l ∉ L) (e0 : st[l]? = some (.lst ds)) (h : Vls L st B n w ds) : Val L st B (n + 1) w (.ref l) := by
  obtain ⟨ts, e, l', hw⟩ := h
  exact ⟨.list ts, by simp only [datM, look, if_neg hl, e0, e]; rfl, l', hw⟩
theorem val_dic0 {l : Nat} (hl : l ∉ L) (e0 : st[l]? = some (.dic [])) : Val L st B (n + 1) w (.ref l) :=
  ⟨.dict [], by simp only [datM, look, if_neg hl, e0]; rfl, trivial, Nat.zero_le _⟩
theorem val_non : Val L st B (n + 1) w .non := ⟨.none, rfl, trivial, Nat.zero_le _⟩
theorem val_bl (b : Bool) : Val L st B (n + 1) w (.bl b) := ⟨.bool b, rfl, trivial, Nat.zero_le _⟩
theorem val_int {i : Int} (h : i.natAbs < B.i) (hw : i.natAbs < 2 ^ w) : Val L st B (n + 1) w (.int i) := by
  refine ⟨.int i, rfl, h, ?_⟩
  simp only [PyData.weight]
  split
  · exact Nat.zero_le _
  · rename_i h0
    have : i.natAbs ≠ 0 := by
      intro q
      apply h0
      have := Int.natAbs_eq_zero.mp q
      rw [this]; rfl
    have := (Nat.log2_lt this).mpr hw
    omega
theorem val_str {z : Str} (h : ∀ c ∈ z.cps.toList, c < 128) (hw : z.length ≤ w) (hs : z.length ≤ B.s) : Val L st B (n + 1) w (.str z) := ⟨.str z, rfl, ⟨h, hs⟩, hw⟩
theorem Val.tup_inv (h : Val L st B n w (.tup ds)) : ∃ k, n = k + 1 ∧ Vls L st B k w ds := by
  obtain ⟨t, e, l, hw⟩ := h
  cases n with
  | zero => cases e
  | succ n =>
    simp only [datM] at e
    obtain ⟨ts, e1, rfl⟩ := Option.map_eq_some_iff.mp e
    exact ⟨n, rfl, ts, e1, l, hw⟩
theorem Val.str_inv {z : Str} (h : Val L st B n w (.str z)) : (∀ c ∈ z.cps.toList, c < 128) ∧ z.length ≤ w ∧ z.length ≤ B.s := by
  obtain ⟨t, e, l, hw⟩ := h
  cases n with
  | zero => cases e
  | succ n => cases e; exact ⟨l.1, hw, l.2⟩
theorem Val.int_inv {i : Int} (h : Val L st B n w (.int i)) : i.natAbs < B.i := by
  obtain ⟨t, e, l, hw⟩ := h
  cases n with
  | zero => cases e
  | succ n => cases e; exact l
theorem Val.ref_inv {l : Nat} (h : Val L st B n w (.ref l)) : l ∉ L ∧ ((∃ ds, st[l]? = some (.lst ds)) ∨ ∃ kvs, st[l]? = some (.dic kvs)) := by
  obtain ⟨t, e, _, hw⟩ := h
  cases n with
  | zero => cases e
  | succ n =>
    simp only [datM, look] at e
    by_cases hl : l ∈ L
    · rw [if_pos hl] at e; cases e
    · rw [if_neg hl] at e
      refine ⟨hl, ?_⟩
      cases q : st[l]? with
      | none => rw [q] at e; cases e
      | some o => cases o with
        | lst ds => exact .inl ⟨_, rfl⟩
        | dic kvs => exact .inr ⟨_, rfl⟩
theorem Val.no_scr {ns : List Int} (h : Val L st B n w (.scr ns)) : False := by
  obtain ⟨t, e, _⟩ := h
  cases n <;> cases e
theorem Val.no_exn {a dd : Addr} {ks : List Str} {xs : List D} (h : Val L st B n w (.exn a dd ks xs)) : False := by
  obtain ⟨t, e, _⟩ := h
  cases n <;> cases e
theorem Val.pos (h : Val L st B n w d) : 0 < n := by
  obtain ⟨t, e, _⟩ := h
  cases n with
  | zero => cases e
  | succ n => omega
theorem Vls.one (h : Val L st B n w d) : Vls L st B n (w + 1) [d] := (Vls.cons h (Vls.nil (w := 0)))
/-- repr of what is not too great -/
theorem repr_val {Q : D → Store → Prop} (h : Val L st topB n w d) (hn : n ≤ 150) (hw : w ≤ 270000) (k : ∀ z, (∀ st', Grow L st st' → ∀ {Q' : D → Store → Prop}, Q' (.str z) st' → EvO (reprF [d] st') Q') → Q (.str z) st) : EvO (reprF [d] st) Q := by
  obtain ⟨t, e, l, hw'⟩ := h
  have sh := leaf_short t l
  have hl : t.shown.length ≤ LIM := by
    have := PyData.shown_le 60 (by decide) t sh.1
    have h2 : (60 + 2) * t.weight ≤ (60 + 2) * 270000 := Nat.mul_le_mul_left _ (by omega)
    show t.shown.length ≤ 16777216
    omega
  have key : ∀ st', Grow L st st' → ∀ {Q' : D → Store → Prop}, Q' (.str t.shown) st' → EvO (reprF [d] st') Q' := fun st' g Q' q => by
    have e2 : datN 150 st' d = some t := datN_of (datM_mono hn (fun _ _ h => g.look h) e)
    simp only [reprF, e2, Option.bind_some]
    rw [if_pos ⟨sh.2, hl⟩]
    exact q
  exact key st Grow.refl (k _ key)
end
end Mi
set_option Elab.async false
set_option linter.all false
set_option maxRecDepth 100000
set_option maxHeartbeats 4000000
/-! Mp2: what operations answer. -/
namespace Mi
open PySem
section
variable {st : Store} {Q : D → Store → Prop}
theorem o_dic {l : Nat} {kvs : List (L2.Key × D)} {k : Str} {d : D} (h : st[l]? = some (.dic kvs)) (h2 : kvGet kvs (Sum.inr k) = some d) : EvO (ixF (.ref l) (.str k) st) Q = Q d st := by
  simp only [ixF, h, h2]; rfl
theorem o_lst {l : Nat} {ds : List D} {i : Int} {d : D} (h : st[l]? = some (.lst ds)) (h2 : L2.atI ds i = some d) : EvO (ixF (.ref l) (.int i) st) Q = Q d st := by
  simp only [ixF, h, h2]; rfl
theorem o_tup {ds : List D} {i : Int} {d : D} (h2 : L2.atI ds i = some d) : EvO (ixF (.tup ds) (.int i) st) Q = Q d st := by
  simp only [ixF, h2]; rfl
theorem atI_ofNat {α : Type} {ds : List α} {i : Int} (h0 : 0 ≤ i) (h1 : i < ds.length) : ∃ d, L2.atI ds i = some d ∧ ds[i.toNat]? = some d := by
  have hk : i.toNat < ds.length := by omega
  have e : i = ((i.toNat : Nat) : Int) := by omega
  refine ⟨ds[i.toNat], ?_, List.getElem?_eq_getElem hk⟩
  have := L2.atI_nat  (List.getElem?_eq_getElem hk)
  rwa [← e] at this
theorem o_add {a b : Int} : EvO (addF (.int a) (.int b) st) Q = Q (.int (a + b)) st := rfl
theorem o_sub {a b : Int} : EvO (subF (.int a) (.int b) st) Q = Q (.int (a - b)) st := rfl
theorem o_neg {a : Int} : EvO (negF (.int a) st) Q = Q (.int (-a)) st := rfl
theorem log2_le {a : Nat} {k : Nat} (h : a < 2 ^ k) : a.log2 ≤ k := by
  by_cases h0 : a = 0
  · subst h0; simp
  · have := (Nat.log2_lt h0).mpr h; omega
theorem o_mul {a b : Int} (ha : a.natAbs < 2 ^ 200) (hb : b.natAbs < 2 ^ 200) : EvO (mulF (.int a) (.int b) st) Q = Q (.int (a * b)) st := by
  have h1 := log2_le ha
  have h2 := log2_le hb
  simp only [mulF]
  rw [if_pos (by omega)]
  rfl
theorem o_mod {a b : Int} (h : 0 < b) : EvO (modF (.int a) (.int b) st) Q = Q (.int (a % b)) st := by
  simp only [modF, if_pos h]; rfl
theorem o_fdiv {a b : Int} (h : 0 < b) (hb : b.natAbs < 2 ^ 200) : EvO (fdivF (.int a) (.int b) st) Q = Q (.int (a / b)) st := by
  have h1 := log2_le hb
  simp only [fdivF]
  rw [if_pos ⟨h, by omega⟩]
  rfl
theorem o_pow {a b : Int} (h : 0 ≤ b) (hb : b ≤ 1000000) (ha : a.natAbs < 2 ^ 64) : EvO (powF (.int a) (.int b) st) Q = Q (.int (a ^ b.toNat)) st := by
  simp only [powF]
  rw [if_pos ⟨h, hb, ha⟩]
  rfl
theorem o_cmp {p : Int → Int → Bool} {a b : Int} : EvO (cmpI p (.int a) (.int b) st) Q = Q (.bl (p a b)) st := rfl
theorem o_opB {f : D → D → Store → Option Bool} {x y : D} {b : Bool} (h : f x y st = some b) : EvO (opB f x y st) Q = Q (.bl b) st := by simp only [opB, h]; rfl
theorem o_mkLst {ds : List D} (h : ds.length ≤ LIM) : EvO (mkLst ds st) Q = Q (.ref st.length) (st ++ [.lst ds]) := by simp only [mkLst, if_pos h]; rfl
theorem o_mkTup {ds : List D} (h : ds.length ≤ LIM) : EvO (mkTup ds st) Q = Q (.tup ds) st := by simp only [mkTup, if_pos h]; rfl
theorem o_mkDic {kvs : List (L2.Key × D)} (h : kvs.length ≤ 15) : EvO (mkDic kvs st) Q = Q (.ref st.length) (st ++ [.dic (kvMerge kvs)]) := by simp only [mkDic, if_pos h]; rfl
theorem eqn_nil {n l m : Nat} {xs : List D} (h : st[l]? = some (.lst xs)) (h2 : st[m]? = some (.lst [])) : eqN (n + 1) st (.ref l) (.ref m) = some xs.isEmpty := by
  unfold eqN
  dsimp only
  rw [h]
  dsimp only
  rw [h2]
  cases xs with
  | nil => rfl
  | cons _ _ => rfl
theorem eqn_pos : ∃ n, EQN = n + 1 := ⟨59, rfl⟩
theorem eq_nil {l m : Nat} {xs : List D} (h : st[l]? = some (.lst xs)) (h2 : st[m]? = some (.lst [])) : eqF (.ref l) (.ref m) st = some xs.isEmpty := by
  obtain ⟨n, e⟩ := eqn_pos
  unfold eqF
  rw [e]
  exact eqn_nil h h2
theorem ne_nil {l m : Nat} {xs : List D} (h : st[l]? = some (.lst xs)) (h2 : st[m]? = some (.lst [])) : neF (.ref l) (.ref m) st = some (!xs.isEmpty) := by
  have e := eq_nil h h2
  unfold eqF at e
  unfold neF
  rw [e]
  have a : isDicF (.ref l) st = false := by unfold isDicF; dsimp only; rw [h]
  have b : isDicF (.ref m) st = false := by unfold isDicF; dsimp only; rw [h2]
  rw [a, b]
  rfl
theorem o_pop {l : Nat} {ds : List D} {d : D} (h : st[l]? = some (.lst ds)) (h2 : ds.getLast? = some d) : EvO (popF (.ref l) [] st) Q = Q d (st.set l (.lst ds.dropLast)) := by
  simp only [popF, h, h2]; rfl
theorem o_app {l : Nat} {ds : List D} {d : D} (h : st[l]? = some (.lst ds)) (h2 : ds.length < LIM) : EvO (appF (.ref l) [d] st) Q = Q .non (st.set l (.lst (ds ++ [d]))) := by
  simp only [appF, h, if_pos h2]; rfl
theorem ty_lst {l : Nat} {ds : List D} (h : st[l]? = some (.lst ds)) : tyD "list" (.ref l) st := .inl ⟨rfl, ds, h⟩
theorem set_str {l : Nat} {kvs : List (L2.Key × D)} {k : Str} {d : D} (h : st[l]? = some (.dic kvs)) (h2 : kvs.length < LIM) : setItemF (.ref l) (.str k) d st = some (st.set l (.dic (kvPut kvs (Sum.inr k) d))) := by
  simp only [setItemF, h, if_pos h2]
theorem o_lenT {ds : List D} : EvO (lenF [.tup ds] st) Q = Q (.int ds.length) st := rfl
theorem o_lenS {z : Str} (h : z.length ≤ LIM) : EvO (lenF [.str z] st) Q = Q (.int z.length) st := by simp only [lenF, if_pos h]; rfl
theorem o_lenL {l : Nat} {ds : List D} (h : st[l]? = some (.lst ds)) : EvO (lenF [.ref l] st) Q = Q (.int ds.length) st := by simp only [lenF, h]; rfl
theorem get_app {l : Nat} {o : O} {x : List O} (h : st[l]? = some o) : (st ++ x)[l]? = some o := by rw [List.getElem?_append_left (List.getElem?_eq_some_iff.mp h).1]; exact h
theorem get_new {o : O} : (st ++ [o])[st.length]? = some o := by simp
theorem get_set {l : Nat} {o u : O} (h : st[l]? = some u) : (st.set l o)[l]? = some o := List.getElem?_set_self (List.getElem?_eq_some_iff.mp h).1
theorem get_ne {l m : Nat} {o u : O} (h : st[l]? = some u) (hm : m ≠ l) : (st.set m o)[l]? = some u := by rw [List.getElem?_set_ne hm]; exact h
end
end Mi
set_option Elab.async false
set_option linter.all false
set_option maxRecDepth 100000
set_option maxHeartbeats 4000000
/-! Mp3: errors over plain data: raise, try, ranges. -/
namespace Mi
open PySem
section
variable {Q : D → Store → Prop} {p : Rho} {st : Store} {E : En} {Y : Exc → Store → Prop}
theorem evs_raise (x f : Str) (a : EF) : EvS (sRaise x f a p st) E = EvX (fun e st => E.xc e p st) (a p st) fun d st1 => E.xc ⟨x, [(f, d)]⟩ p st1 := by simp only [sRaise, evs_bind]; rfl
theorem evs_try {i : Nat} {sub : Str → Option Bool} {fb : SF} {fS : Addr → Addr → Str → SF}
    (h : EvS (fb p st) { E with xc := fun e p1 st1 => match sub e.cls with
      | some true => ∃ r, (∀ a dd, forgetS i (fS a dd e.cls (p1.set i (some (.exn a dd (e.fs.map (·.1)) (e.fs.map (·.2))))) st1) = r) ∧ EvS r E
      | some false => E.xc e p1 st1
      | none => False }) : EvS (sTry i sub fb fS p st) E := by
  unfold sTry
  cases hr : fb p st with
  | nx p1 st1 => rw [hr] at h; exact h
  | rt d st1 => rw [hr] at h; exact h
  | bk p1 st1 => rw [hr] at h; exact h
  | ct p1 st1 => rw [hr] at h; exact h
  | bad => rw [hr] at h; exact h
  | xc e p1 st1 =>
    rw [hr] at h
    simp only [EvS] at h
    cases hb : sub e.cls with
    | none => rw [hb] at h; exact h.elim
    | some b =>
      rw [hb] at h
      cases b with
      | true =>
        obtain ⟨r, h1, h2⟩ := h
        simp only [hb]
        rw [glue_eq (g := fun ad : Addr × Addr => forgetS i (fS ad.1 ad.2 e.cls (p1.set i (some (.exn ad.1 ad.2 (e.fs.map (·.1)) (e.fs.map (·.2))))) st1)) (0, 0) fun ad => h1 ad.1 ad.2]
        exact h2
      | false =>
        simp only [hb]
        exact h
theorem ev_inRg (neg : Bool) (a lo hi : EF) : EvX Y (inRgF neg a lo hi p st) Q = EvX Y (a p st) fun x st1 => EvX Y (lo p st1) fun l st2 => EvX Y (hi p st2) fun h st3 => (match x, l, h with
  | .int i, .int l, .int h => Q (.bl (decide (l ≤ i ∧ i < h) != neg)) st3
  | _, _, _ => False) := by
  simp only [inRgF, ev_bind]
  congr; funext x st1; congr; funext l st2; congr; funext h st3
  split
  · rfl
  · rename_i hh
    cases x <;> cases l <;> cases h <;> first | rfl | exact absurd rfl (hh _ _ _ rfl rfl)
theorem evs_asgT (a : EF) (n : Nat) (g : TgsF) : EvS (sAsg a (gTupF n g) p st) E = EvX (fun e st => E.xc e p st) (a p st) fun d st1 => (match gTupF n g d p st1 with | some p1 => E.nx p1 st1 | none => False) := evs_asg a _
theorem tg_2 {i j : Nat} {a b : D} {p : Rho} {st : Store} : gTupF 2 (gConsF (gNameF i) (gConsF (gNameF j) gNilF)) (.tup [a, b]) p st = some ((p.set i (some a)).set j (some b)) := rfl
theorem tg_3 {i j k : Nat} {a b c : D} {p : Rho} {st : Store} : gTupF 3 (gConsF (gNameF i) (gConsF (gNameF j) (gConsF (gNameF k) gNilF))) (.tup [a, b, c]) p st = some (((p.set i (some a)).set j (some b)).set k (some c)) := rfl
/-- a def that comes to its end, or raises -/
theorem EvX.get {α : Type} {Q : α → Store → Prop} {r : R α} (h : EvX Y r Q) : (∃ a st, r = .ok a st ∧ Q a st) ∨ ∃ e st, r = .exc e st ∧ Y e st := by
  cases r with
  | ok a st => exact .inl ⟨a, st, rfl, h⟩
  | exc e st => exact .inr ⟨e, st, rfl, h⟩
  | bad => exact h.elim
end
end Mi
set_option Elab.async false
set_option linter.all false
set_option maxRecDepth 100000
set_option maxHeartbeats 4000000
namespace Mi
open PySem PySem.Spec L2
open PyProof.Rows hiding St
/-! the law's defs -/
def top (i : Nat) : Stmt := PySem.Challenge.pw_breakins_k12_texts_of_no_story.main.body.getD i (.Pass ⟨0, 0, 0, 0⟩)
def g_LETTERS : D := .str "abcdefghijklmnopqrstuvwxyz"
def g_MOST_LETTERS : D := .int 8
def g_EMPTY : D := .str "-"
def g_VALUES : D := .str "0123"
def g_MOST_BRACKETS : D := .int 30
abbrev s_is_name : Stmt := top 10
theorem sc_is_name : FnScope ["thing", "letter"] ["thing"] (defScope s_is_name) := ⟨rfl, rfl, rfl, by decide +kernel, rfl, by decide +kernel, by decide +kernel⟩
abbrev s_read_piece : Stmt := top 15
theorem sc_read_piece : FnScope ["text", "at", "opened", "records", "end"] ["text", "at", "opened"] (defScope s_read_piece) := ⟨rfl, rfl, rfl, by decide +kernel, rfl, by decide +kernel, by decide +kernel⟩
abbrev s_read_record : Stmt := top 16
theorem sc_read_record : FnScope ["text", "at", "opened", "end", "name", "value", "pieces", "piece"] ["text", "at", "opened"] (defScope s_read_record) := ⟨rfl, rfl, rfl, by decide +kernel, rfl, by decide +kernel, by decide +kernel⟩
abbrev s_read_records : Stmt := top 17
theorem sc_read_records : FnScope ["text", "at", "opened", "records", "record", "end"] ["text", "at", "opened"] (defScope s_read_records) := ⟨rfl, rfl, rfl, by decide +kernel, rfl, by decide +kernel, by decide +kernel⟩
abbrev s_parse_story : Stmt := top 18
theorem sc_parse_story : FnScope ["text", "records", "end"] ["text"] (defScope s_parse_story) := ⟨rfl, rfl, rfl, by decide +kernel, rfl, by decide +kernel, by decide +kernel⟩
abbrev s__law_deck : Stmt := top 20
theorem sc__law_deck : FnScope ["_law_script", "_law_cell", "_law_cells", "_law_total"] ["_law_script"] (defScope s__law_deck) := ⟨rfl, rfl, rfl, by decide +kernel, rfl, by decide +kernel, by decide +kernel⟩
abbrev s__law_draw : Stmt := top 21
theorem sc__law_draw : FnScope ["_law_deck_here", "_law_many", "_law_mixed", "_law_turn", "_law_cell"] ["_law_deck_here", "_law_many"] (defScope s__law_draw) := ⟨rfl, rfl, rfl, by decide +kernel, rfl, by decide +kernel, by decide +kernel⟩
abbrev s__law_pick : Stmt := top 22
theorem sc__law_pick : FnScope ["_law_deck_here", "_law_some"] ["_law_deck_here", "_law_some"] (defScope s__law_pick) := ⟨rfl, rfl, rfl, by decide +kernel, rfl, by decide +kernel, by decide +kernel⟩
abbrev s__law_records : Stmt := top 23
theorem sc__law_records : FnScope ["_law_deck_here", "_law_left", "_law_deep", "_law_k", "_law_found", "_law_letters", "_law_name", "_law_one", "_law_piece", "_law_inner", "_law_sign"] ["_law_deck_here", "_law_left", "_law_deep"] (defScope s__law_records) := ⟨rfl, rfl, rfl, by decide +kernel, rfl, by decide +kernel, by decide +kernel⟩
abbrev s__law_frozen : Stmt := top 24
theorem sc__law_frozen : FnScope ["_law_records_here", "_law_one", "_law_piece"] ["_law_records_here"] (defScope s__law_frozen) := ⟨rfl, rfl, rfl, by decide +kernel, rfl, by decide +kernel, by decide +kernel⟩
abbrev s__law_head : Stmt := top 25
theorem sc__law_head : FnScope ["_law_it", "_law_at", "_law_end"] ["_law_it", "_law_at"] (defScope s__law_head) := ⟨rfl, rfl, rfl, by decide +kernel, rfl, by decide +kernel, by decide +kernel⟩
abbrev s__law_judged : Stmt := top 26
theorem sc__law_judged : FnScope ["_law_it", "_law_bad", "_law_piles", "_law_at", "_law_head_here", "_law_is_in", "_law_sign", "_law_piece"] ["_law_it"] (defScope s__law_judged) := ⟨rfl, rfl, rfl, by decide +kernel, rfl, by decide +kernel, by decide +kernel⟩
abbrev s__law_bent : Stmt := top 27
theorem sc__law_bent : FnScope ["_law_deck_here", "_law_it", "_law_words", "_law_k", "_law_odd", "_law_some", "_law_at", "_law_way", "_law_to", "_law_sign"] ["_law_deck_here", "_law_it"] (defScope s__law_bent) := ⟨rfl, rfl, rfl, by decide +kernel, rfl, by decide +kernel, by decide +kernel⟩
abbrev s__law_heard : Stmt := top 28
theorem sc__law_heard : FnScope ["_law_way", "_law_it", "_law_found", "e", "_law_others"] ["_law_way", "_law_it"] (defScope s__law_heard) := ⟨rfl, rfl, rfl, by decide +kernel, rfl, by decide +kernel, by decide +kernel⟩
abbrev s__law_deep_ones : Stmt := top 29
theorem sc__law_deep_ones : FnScope ["_law_deck_here", "_law_found", "_law_many", "_law_one"] ["_law_deck_here"] (defScope s__law_deep_ones) := ⟨rfl, rfl, rfl, by decide +kernel, rfl, by decide +kernel, by decide +kernel⟩
abbrev s_law : Stmt := top 30
theorem sc_law : FnScope ["_law_script", "_law_deck_here", "_law_some", "_law_turn", "_law_way", "_law_it", "_law_again", "_law_other", "_law_kept"] ["_law_script"] (defScope s_law) := ⟨rfl, rfl, rfl, by decide +kernel, rfl, by decide +kernel, by decide +kernel⟩
structure TB (K : PySem.W.Frag) (mg : Str → Option Value) where
  a_is_name : Addr
  d_is_name : FuncData
  F_is_name : FF K mg "is_name" s_is_name a_is_name d_is_name
  a_read_piece : Addr
  d_read_piece : FuncData
  F_read_piece : FF K mg "read_piece" s_read_piece a_read_piece d_read_piece
  a_read_record : Addr
  d_read_record : FuncData
  F_read_record : FF K mg "read_record" s_read_record a_read_record d_read_record
  a_read_records : Addr
  d_read_records : FuncData
  F_read_records : FF K mg "read_records" s_read_records a_read_records d_read_records
  a_parse_story : Addr
  d_parse_story : FuncData
  F_parse_story : FF K mg "parse_story" s_parse_story a_parse_story d_parse_story
  a__law_deck : Addr
  d__law_deck : FuncData
  F__law_deck : FF K mg "_law_deck" s__law_deck a__law_deck d__law_deck
  a__law_draw : Addr
  d__law_draw : FuncData
  F__law_draw : FF K mg "_law_draw" s__law_draw a__law_draw d__law_draw
  a__law_pick : Addr
  d__law_pick : FuncData
  F__law_pick : FF K mg "_law_pick" s__law_pick a__law_pick d__law_pick
  a__law_records : Addr
  d__law_records : FuncData
  F__law_records : FF K mg "_law_records" s__law_records a__law_records d__law_records
  a__law_frozen : Addr
  d__law_frozen : FuncData
  F__law_frozen : FF K mg "_law_frozen" s__law_frozen a__law_frozen d__law_frozen
  a__law_head : Addr
  d__law_head : FuncData
  F__law_head : FF K mg "_law_head" s__law_head a__law_head d__law_head
  a__law_judged : Addr
  d__law_judged : FuncData
  F__law_judged : FF K mg "_law_judged" s__law_judged a__law_judged d__law_judged
  a__law_bent : Addr
  d__law_bent : FuncData
  F__law_bent : FF K mg "_law_bent" s__law_bent a__law_bent d__law_bent
  a__law_heard : Addr
  d__law_heard : FuncData
  F__law_heard : FF K mg "_law_heard" s__law_heard a__law_heard d__law_heard
  a__law_deep_ones : Addr
  d__law_deep_ones : FuncData
  F__law_deep_ones : FF K mg "_law_deep_ones" s__law_deep_ones a__law_deep_ones d__law_deep_ones
  a_law : Addr
  d_law : FuncData
  F_law : FF K mg "law" s_law a_law d_law
  b_BreakError : Addr
  B_BreakError : BaseC K mg "BreakError" b_BreakError
  c_InvalidText : Addr
  j_InvalidText : Addr
  J_InvalidText : FuncData
  X_InvalidText : XC K mg "InvalidText" (inClass (top 4) 0) c_InvalidText j_InvalidText J_InvalidText
  h_InvalidText : PySem.W.findIn K (.ref c_InvalidText) "line" = some none
  e_BreakError : Addr
  D_BreakError : CD K mg "BreakError" e_BreakError
  e_TooMany : Addr
  D_TooMany : CD K mg "TooMany" e_TooMany
  e_TooGreat : Addr
  D_TooGreat : CD K mg "TooGreat" e_TooGreat
  e_NoStory : Addr
  D_NoStory : CD K mg "NoStory" e_NoStory
  e_InvalidProgram : Addr
  D_InvalidProgram : CD K mg "InvalidProgram" e_InvalidProgram
  e_InvalidText : Addr
  D_InvalidText : CD K mg "InvalidText" e_InvalidText
  E_BreakError : PySem.W.subIn K (.ref e_BreakError) (.type "BaseException") = some true
  s_InvalidText_BreakError : PySem.W.subIn K (.ref c_InvalidText) (.ref e_BreakError) = some true
  s_InvalidText_TooMany : PySem.W.subIn K (.ref c_InvalidText) (.ref e_TooMany) = some false
  r_InvalidText_TooMany : (Value.ref c_InvalidText == Value.ref e_TooMany) = false
  s_InvalidText_TooGreat : PySem.W.subIn K (.ref c_InvalidText) (.ref e_TooGreat) = some false
  r_InvalidText_TooGreat : (Value.ref c_InvalidText == Value.ref e_TooGreat) = false
  s_InvalidText_NoStory : PySem.W.subIn K (.ref c_InvalidText) (.ref e_NoStory) = some false
  r_InvalidText_NoStory : (Value.ref c_InvalidText == Value.ref e_NoStory) = false
  s_InvalidText_InvalidProgram : PySem.W.subIn K (.ref c_InvalidText) (.ref e_InvalidProgram) = some false
  r_InvalidText_InvalidProgram : (Value.ref c_InvalidText == Value.ref e_InvalidProgram) = false
  s_InvalidText_InvalidText : PySem.W.subIn K (.ref c_InvalidText) (.ref e_InvalidText) = some true
  s_InvalidText_ValueError : PySem.W.subIn K (.ref c_InvalidText) (.type "ValueError") = some true
  n_ValueError : mg "ValueError" = none
  n_all : mg "all" = none
  n_int : mg "int" = none
  n_isinstance : mg "isinstance" = none
  n_len : mg "len" = none
  n_list : mg "list" = none
  n_max : mg "max" = none
  n_min : mg "min" = none
  n_range : mg "range" = none
  n_repr : mg "repr" = none
  n_str : mg "str" = none
  n_tuple : mg "tuple" = none
  g_LETTERS : GV K mg "LETTERS" g_LETTERS
  g_MOST_LETTERS : GV K mg "MOST_LETTERS" g_MOST_LETTERS
  g_EMPTY : GV K mg "EMPTY" g_EMPTY
  g_VALUES : GV K mg "VALUES" g_VALUES
  g_MOST_BRACKETS : GV K mg "MOST_BRACKETS" g_MOST_BRACKETS
section
variable {P : Program} {w : World} {K : PySem.W.Frag} {mg : Str → Option Value} {base : Heap}
abbrev i_InvalidText : Stmt := inClass (top 4) 0
theorem sci_InvalidText : FnScope ["self", "line"] ["self", "line"] (defScope i_InvalidText) := ⟨rfl, rfl, rfl, by decide +kernel, rfl, by decide +kernel, by decide +kernel⟩
theorem ec_InvalidText (E : TB K mg) : ErrC mg P w K mg base "InvalidText" "line" E.c_InvalidText := by
  refine ⟨E.X_InvalidText.m, E.X_InvalidText.O, E.X_InvalidText.m, _, _, "line", E.X_InvalidText.iC, E.X_InvalidText.iT, ?_, E.X_InvalidText.F.binds (ps := ["self", "line"]) fun _ _ _ _ _ _ us hl => match us, hl with | [_, _], _ => rfl⟩
  exact E.X_InvalidText.F.ok sci_InvalidText spInit_len fun cdv A outer s H vs Q X0 hr h => by
    obtain ⟨a, v, rfl, ea, q⟩ := h
    refine ⟨_, pss_cons (ps_expr (pe_binit (by rfl) E.B_BreakError.g E.B_BreakError.k E.B_BreakError.r E.B_BreakError.s E.B_BreakError.v (pa_cons (pv 0) (pa_cons pe_str pa_nil)))) (pss_one (ps_ost (pv 0) (pv 1))), ?_⟩
    exact ⟨_, rfl, a, _, _, rfl, by show 1 ≤ 1000; decide, E.X_InvalidText.O, ea, v, rfl, .ref a, rfl, a, _, rfl, E.X_InvalidText.O, E.h_InvalidText, .inl ⟨ea, q⟩⟩
def tabx_BreakError : List (Str × Bool) := [("InvalidText", true)]
theorem tx_BreakError (E : TB K mg) : TabOk K mg (fun c v => PySem.W.exmOne K c (.ref E.e_BreakError) = some v) tabx_BreakError := (tab_cons E.X_InvalidText (E.D_BreakError.exm E.s_InvalidText_BreakError E.E_BreakError) tab_nil)
def tabis_ValueError : List (Str × Bool) := [("InvalidText", true)]
theorem ti_ValueError (E : TB K mg) : TabOk K mg (fun c v => PySem.W.kitOne K c (.type "ValueError") = some v) tabis_ValueError := (tab_cons E.X_InvalidText (kit_typ E.s_InvalidText_ValueError) tab_nil)
def tabis_InvalidProgram_NoStory_TooGreat_TooMany : List (Str × Bool) := [("InvalidText", false)]
theorem ti_InvalidProgram_NoStory_TooGreat_TooMany (E : TB K mg) : TabOk K mg (fun c v => PySem.W.kitAny K c [.ref E.e_InvalidProgram, .ref E.e_NoStory, .ref E.e_TooGreat, .ref E.e_TooMany] = some v) tabis_InvalidProgram_NoStory_TooGreat_TooMany := (tab_cons E.X_InvalidText (kitAny_or (E.D_InvalidProgram.kit E.s_InvalidText_InvalidProgram (.inr E.r_InvalidText_InvalidProgram)) (kitAny_or (E.D_NoStory.kit E.s_InvalidText_NoStory (.inr E.r_InvalidText_NoStory)) (kitAny_or (E.D_TooGreat.kit E.s_InvalidText_TooGreat (.inr E.r_InvalidText_TooGreat)) (kitAny_or (E.D_TooMany.kit E.s_InvalidText_TooMany (.inr E.r_InvalidText_TooMany)) kitAny_nil)))) tab_nil)
def tabis_InvalidText : List (Str × Bool) := [("InvalidText", true)]
theorem ti_InvalidText (E : TB K mg) : TabOk K mg (fun c v => PySem.W.kitOne K c (.ref E.e_InvalidText) = some v) tabis_InvalidText := (tab_cons E.X_InvalidText (E.D_InvalidText.kit E.s_InvalidText_InvalidText (.inl rfl)) tab_nil)
def tabfl_line : List (Str × Bool) := [("InvalidText", true)]
theorem tf_line (E : TB K mg) : TabOk K mg (fun c v => v = true → ∃ C, c = .ref C ∧ XfC K C ∧ PySem.W.findIn K (.ref C) "line" = some none) tabfl_line := (tab_cons E.X_InvalidText (fun _ => ⟨_, rfl, E.X_InvalidText.xf, E.h_InvalidText⟩) tab_nil)
end
section
variable {P : Program} {w : World} {K : PySem.W.Frag} {mg : Str → Option Value} {base : Heap}
noncomputable def F_is_name : FnF := runD 2 (sSeq (sIf (tOrF (tNotF (tVal (eUn (isiF "str") (eVar 0)))) (tNotF (tVal (eChain (cmpI fun i j => decide (i ≤ j)) (cmpI fun i j => decide (i ≤ j)) (eC (.int 1)) (eB lenF (aCons (eVar 0) aNil)) (eC g_MOST_LETTERS))))) (sRet (eC (.bl false))) sNil)
    (sRet (eB allF (aCons (eLC (iSeq (eVar 0)) [1] (gNameF 1) tYesF (eOp (opB inF) (eVar 1) (eC g_LETTERS))) aNil))))
theorem d_is_name {k : Nat} (E : TB K mg) (hs : HasSys base)  : FnD mg P w K mg base (k + 1) "is_name" ["thing"] E.a_is_name E.d_is_name F_is_name :=
  fnD_of E.F_is_name.F sc_is_name E.F_is_name.m (E.F_is_name.F.binds (ps := ["thing"]) fun _ _ _ _ _ _ us hl => match us, hl with | [_], _ => rfl) hs fun cdv A outer s H X0 b => (dss_cons (ds_if (dt_w (dw_or (dt_not (dt_val (de_isi (de_var 0) rfl E.n_isinstance rfl E.n_str (by decide +kernel)))) (dw_or1 (dt_not (dt_chain os_le os_le de_int (de_callB cs_len rfl E.n_len (by decide +kernel) (da_cons (de_var 0) da_nil)) (de_glob E.g_MOST_LETTERS rfl)))))) (dss_one (ds_ret de_bl)) dss_nil)
    (dss_one (ds_ret (de_callB (cs_all b.calm) rfl E.n_all (by decide +kernel) (da_cons (de_lc b.calm b.nd (di_seq (de_var 0)) (blkOk_by (own := [("letter", 1)]) (N := ["thing", "letter"]) (sc := defScope s_is_name) (by decide +kernel)) (fun _ _ _ _ _ => (dg_name (i := 1) b.nd)) (fun _ _ _ _ _ => dts_nil) (fun _ _ _ _ _ => (de_cmp (os_in b.h64) (de_var 1) (de_glob E.g_LETTERS rfl) (by rfl)))) da_nil)))))
mutual
noncomputable def F_read_piece : Nat → FnF
  | 0 => fun _ _ => .bad
  | n + 1 => runD 5 (sSeq (sIf (tVal (eOp (opB eqF) (eVar 2) (eC g_MOST_BRACKETS))) (sRaise "InvalidText" "line" (eC (.int 0))) sNil)
    (sSeq (sPar2 3 4 (aCons (eB mkTup aNil) (aCons (eOp addF (eVar 1) (eC (.int 1))) aNil)))
    (sSeq (sIf (tVal (eOp (opB neF) (eSl slF (eVar 0) (oSome (eVar 4)) (oSome (eOp addF (eVar 4) (eC (.int 1))))) (eC (.str "]")))) (sAsg (eCall (F_read_records n) (aCons (eVar 0) (aCons (eVar 4) (aCons (eOp addF (eVar 2) (eC (.int 1))) aNil)))) (gTupF 2 (gConsF (gNameF 3) (gConsF (gNameF 4) gNilF)))) sNil)
    (sSeq (sIf (tVal (eOp (opB neF) (eSl slF (eVar 0) (oSome (eVar 4)) (oSome (eOp addF (eVar 4) (eC (.int 1))))) (eC (.str "]")))) (sRaise "InvalidText" "line" (eC (.int 0))) sNil)
    (sRet (eB mkTup (aCons (eVar 3) (aCons (eOp addF (eVar 4) (eC (.int 1))) aNil))))))))
noncomputable def F_read_record : Nat → FnF
  | 0 => fun _ _ => .bad
  | n + 1 => runD 8 (sSeq (sAsg (eMt "str" find3F (eVar 0) (aCons (eC (.str ".")) (aCons (eVar 1) aNil))) (gNameF 3))
    (sSeq (sPar2 4 5 (aCons (eSl slF (eVar 0) (oSome (eVar 1)) (oSome (eB maxF (aCons (eVar 1) (aCons (eVar 3) aNil))))) (aCons (eSl slF (eVar 0) (oSome (eOp addF (eVar 3) (eC (.int 1)))) (oSome (eOp addF (eVar 3) (eC (.int 2))))) aNil)))
    (sSeq (sIf (tOrF (tNotF (tVal (eCall F_is_name (aCons (eVar 4) aNil)))) (tOrF (tVal (eOp (opB eqF) (eVar 5) (eC (.str "")))) (tVal (eOp (opB fun x y st => (inF x y st).map (!·)) (eVar 5) (eC g_VALUES))))) (sRaise "InvalidText" "line" (eC (.int 0))) sNil)
    (sSeq (sPar2 6 3 (aCons (eB mkLst aNil) (aCons (eOp addF (eVar 3) (eC (.int 2))) aNil)))
    (sSeq (whGo (tVal (eOp (opB eqF) (eSl slF (eVar 0) (oSome (eVar 3)) (oSome (eOp addF (eVar 3) (eC (.int 1))))) (eC (.str "[")))) (sSeq (sAsg (eCall (F_read_piece n) (aCons (eVar 0) (aCons (eVar 3) (aCons (eVar 2) aNil)))) (gTupF 2 (gConsF (gNameF 7) (gConsF (gNameF 3) gNilF))))
    (sExpr (eMt "list" appF (eVar 6) (aCons (eVar 7) aNil)))) 5000)
    (sRet (eB mkTup (aCons (eB mkTup (aCons (eVar 4) (aCons (eB intF (aCons (eVar 5) aNil)) (aCons (eB tupleF (aCons (eVar 6) aNil)) aNil)))) (aCons (eVar 3) aNil)))))))))
noncomputable def F_read_records : Nat → FnF
  | 0 => fun _ _ => .bad
  | n + 1 => runD 6 (sSeq (sAsg (eCall (F_read_record n) (aCons (eVar 0) (aCons (eVar 1) (aCons (eVar 2) aNil)))) (gTupF 2 (gConsF (gNameF 4) (gConsF (gNameF 5) gNilF))))
    (sSeq (sAsg (eB mkLst (aCons (eVar 4) aNil)) (gNameF 3))
    (sSeq (whGo (tVal (eOp (opB eqF) (eSl slF (eVar 0) (oSome (eVar 5)) (oSome (eOp addF (eVar 5) (eC (.int 1))))) (eC (.str " ")))) (sSeq (sAsg (eCall (F_read_record n) (aCons (eVar 0) (aCons (eOp addF (eVar 5) (eC (.int 1))) (aCons (eVar 2) aNil)))) (gTupF 2 (gConsF (gNameF 4) (gConsF (gNameF 5) gNilF))))
    (sExpr (eMt "list" appF (eVar 3) (aCons (eVar 4) aNil)))) 5000)
    (sRet (eB mkTup (aCons (eB tupleF (aCons (eVar 3) aNil)) (aCons (eVar 5) aNil)))))))
end
theorem d_read_piece {k : Nat} (E : TB K mg) (hs : HasSys base) (hk : 2 ≤ k) (G_is_name : FnD mg P w K mg base k "is_name" ["thing"] E.a_is_name E.d_is_name F_is_name) : ∀ n : Nat, FnD mg P w K mg base (k + n) "read_piece" ["text", "at", "opened"] E.a_read_piece E.d_read_piece (F_read_piece n) ∧ FnD mg P w K mg base (k + n) "read_record" ["text", "at", "opened"] E.a_read_record E.d_read_record (F_read_record n) ∧ FnD mg P w K mg base (k + n) "read_records" ["text", "at", "opened"] E.a_read_records E.d_read_records (F_read_records n)
  | 0 => ⟨fnD_bad E.F_read_piece.F E.F_read_piece.m (E.F_read_piece.F.binds (ps := ["text", "at", "opened"]) fun _ _ _ _ _ _ us hl => match us, hl with | [_, _, _], _ => rfl), fnD_bad E.F_read_record.F E.F_read_record.m (E.F_read_record.F.binds (ps := ["text", "at", "opened"]) fun _ _ _ _ _ _ us hl => match us, hl with | [_, _, _], _ => rfl), fnD_bad E.F_read_records.F E.F_read_records.m (E.F_read_records.F.binds (ps := ["text", "at", "opened"]) fun _ _ _ _ _ _ us hl => match us, hl with | [_, _, _], _ => rfl)⟩
  | n + 1 => by
    have ih := d_read_piece (k := k) E hs hk G_is_name n
    obtain ⟨G_read_piece, G_read_record, G_read_records⟩ := ih
    have G_is_name := G_is_name.mono (Nat.le_add_right k n)
    exact ⟨fnD_of E.F_read_piece.F sc_read_piece E.F_read_piece.m (E.F_read_piece.F.binds (ps := ["text", "at", "opened"]) fun _ _ _ _ _ _ us hl => match us, hl with | [_, _, _], _ => rfl) hs fun cdv A outer s H X0 b => (dss_cons (ds_if (dt_cmp (os_eq b.h64) (de_var 2) (de_glob E.g_MOST_BRACKETS rfl) (by rfl)) (dss_one (ds_raise (ec_InvalidText E) b.calm b.tk (b.hr.mono (Nat.le_trans hk (Nat.le_add_right k n))) de_int)) dss_nil)
    (dss_cons (ds_par2 (i := 3) (j := 4) b.calm b.nd (da_cons (de_tup da_nil) (da_cons (de_op os_add (de_var 1) de_int) da_nil)))
    (dss_cons (ds_if (dt_cmp (os_ne b.h64) (de_slice ss_sl (de_var 0) (do_some (de_var 4)) (do_some (de_op os_add (de_var 4) de_int))) de_str (by rfl)) (dss_one (ds_asg (de_call G_read_records b.tk b.gd b.hr (alen_cons (alen_cons (alen_cons alen_nil))) (da_cons (de_var 0) (da_cons (de_var 4) (da_cons (de_op os_add (de_var 2) de_int) da_nil)))) (dg_tup b.calm (dgs_cons (dg_name (i := 3) b.nd) (dgs_cons (dg_name (i := 4) b.nd) dgs_nil))))) dss_nil)
    (dss_cons (ds_if (dt_cmp (os_ne b.h64) (de_slice ss_sl (de_var 0) (do_some (de_var 4)) (do_some (de_op os_add (de_var 4) de_int))) de_str (by rfl)) (dss_one (ds_raise (ec_InvalidText E) b.calm b.tk (b.hr.mono (Nat.le_trans hk (Nat.le_add_right k n))) de_int)) dss_nil)
    (dss_one (ds_ret (de_tup (da_cons (de_var 3) (da_cons (de_op os_add (de_var 4) de_int) da_nil))))))))),
    fnD_of E.F_read_record.F sc_read_record E.F_read_record.m (E.F_read_record.F.binds (ps := ["text", "at", "opened"]) fun _ _ _ _ _ _ us hl => match us, hl with | [_, _, _], _ => rfl) hs fun cdv A outer s H X0 b => (dss_cons (ds_set (i := 3) b.nd (de_m PySem.F.plainAttrs_str PySem.F.slot_str_find PySem.F.type_str_find ms_find3 (de_var 0) (da_cons de_str (da_cons (de_var 1) da_nil))))
    (dss_cons (ds_par2 (i := 4) (j := 5) b.calm b.nd (da_cons (de_slice ss_sl (de_var 0) (do_some (de_var 1)) (do_some (de_callB (cs_max b.calm) rfl E.n_max (by decide +kernel) (da_cons (de_var 1) (da_cons (de_var 3) da_nil))))) (da_cons (de_slice ss_sl (de_var 0) (do_some (de_op os_add (de_var 3) de_int)) (do_some (de_op os_add (de_var 3) de_int))) da_nil)))
    (dss_cons (ds_if (dt_w (dw_or (dt_not (dt_val (de_call G_is_name b.tk b.gd b.hr (alen_cons alen_nil) (da_cons (de_var 4) da_nil)))) (dw_or (dt_cmp (os_eq b.h64) (de_var 5) de_str (by rfl)) (dw_or1 (dt_cmp (os_notIn b.h64) (de_var 5) (de_glob E.g_VALUES rfl) (by rfl)))))) (dss_one (ds_raise (ec_InvalidText E) b.calm b.tk (b.hr.mono (Nat.le_trans hk (Nat.le_add_right k n))) de_int)) dss_nil)
    (dss_cons (ds_par2 (i := 6) (j := 3) b.calm b.nd (da_cons (de_lst da_nil) (da_cons (de_op os_add (de_var 3) de_int) da_nil)))
    (dss_cons (ds_while 5000 b.po (dt_cmp (os_eq b.h64) (de_slice ss_sl (de_var 0) (do_some (de_var 3)) (do_some (de_op os_add (de_var 3) de_int))) de_str (by rfl)) (dss_cons (ds_asg (de_call G_read_piece b.tk b.gd b.hr (alen_cons (alen_cons (alen_cons alen_nil))) (da_cons (de_var 0) (da_cons (de_var 3) (da_cons (de_var 2) da_nil)))) (dg_tup b.calm (dgs_cons (dg_name (i := 7) b.nd) (dgs_cons (dg_name (i := 3) b.nd) dgs_nil))))
    (dss_one (ds_expr (de_m PySem.F.plainAttrs_list PySem.F.slot_list_append PySem.F.type_list_append ms_append (de_var 6) (da_cons (de_var 7) da_nil))))))
    (dss_one (ds_ret (de_tup (da_cons (de_tup (da_cons (de_var 4) (da_cons (de_callTy cs_int rfl E.n_int (by decide +kernel) (da_cons (de_var 5) da_nil)) (da_cons (de_callTy cs_tuple rfl E.n_tuple (by decide +kernel) (da_cons (de_var 6) da_nil)) da_nil)))) (da_cons (de_var 3) da_nil)))))))))),
    fnD_of E.F_read_records.F sc_read_records E.F_read_records.m (E.F_read_records.F.binds (ps := ["text", "at", "opened"]) fun _ _ _ _ _ _ us hl => match us, hl with | [_, _, _], _ => rfl) hs fun cdv A outer s H X0 b => (dss_cons (ds_asg (de_call G_read_record b.tk b.gd b.hr (alen_cons (alen_cons (alen_cons alen_nil))) (da_cons (de_var 0) (da_cons (de_var 1) (da_cons (de_var 2) da_nil)))) (dg_tup b.calm (dgs_cons (dg_name (i := 4) b.nd) (dgs_cons (dg_name (i := 5) b.nd) dgs_nil))))
    (dss_cons (ds_set (i := 3) b.nd (de_lst (da_cons (de_var 4) da_nil)))
    (dss_cons (ds_while 5000 b.po (dt_cmp (os_eq b.h64) (de_slice ss_sl (de_var 0) (do_some (de_var 5)) (do_some (de_op os_add (de_var 5) de_int))) de_str (by rfl)) (dss_cons (ds_asg (de_call G_read_record b.tk b.gd b.hr (alen_cons (alen_cons (alen_cons alen_nil))) (da_cons (de_var 0) (da_cons (de_op os_add (de_var 5) de_int) (da_cons (de_var 2) da_nil)))) (dg_tup b.calm (dgs_cons (dg_name (i := 4) b.nd) (dgs_cons (dg_name (i := 5) b.nd) dgs_nil))))
    (dss_one (ds_expr (de_m PySem.F.plainAttrs_list PySem.F.slot_list_append PySem.F.type_list_append ms_append (de_var 3) (da_cons (de_var 4) da_nil))))))
    (dss_one (ds_ret (de_tup (da_cons (de_callTy cs_tuple rfl E.n_tuple (by decide +kernel) (da_cons (de_var 3) da_nil)) (da_cons (de_var 5) da_nil))))))))⟩
noncomputable def F_parse_story : FnF := runD 3 (sSeq (sIf (tNotF (tVal (eUn (isiF "str") (eVar 0)))) (sRaise "InvalidText" "line" (eC (.int 0))) sNil)
    (sSeq (sIf (tVal (eOp (opB eqF) (eVar 0) (eC g_EMPTY))) (sRet (eB mkTup aNil)) sNil)
    (sSeq (sAsg (eCall (F_read_records 100) (aCons (eVar 0) (aCons (eC (.int 0)) (aCons (eC (.int 0)) aNil)))) (gTupF 2 (gConsF (gNameF 1) (gConsF (gNameF 2) gNilF))))
    (sSeq (sIf (tVal (eOp (opB neF) (eVar 2) (eB lenF (aCons (eVar 0) aNil)))) (sRaise "InvalidText" "line" (eC (.int 0))) sNil)
    (sRet (eVar 1))))))
theorem d_parse_story {k : Nat} (E : TB K mg) (hs : HasSys base) (hk : 2 ≤ k) (G_read_records : FnD mg P w K mg base k "read_records" ["text", "at", "opened"] E.a_read_records E.d_read_records (F_read_records 100)) : FnD mg P w K mg base (k + 1) "parse_story" ["text"] E.a_parse_story E.d_parse_story F_parse_story :=
  fnD_of E.F_parse_story.F sc_parse_story E.F_parse_story.m (E.F_parse_story.F.binds (ps := ["text"]) fun _ _ _ _ _ _ us hl => match us, hl with | [_], _ => rfl) hs fun cdv A outer s H X0 b => (dss_cons (ds_if (dt_not (dt_val (de_isi (de_var 0) rfl E.n_isinstance rfl E.n_str (by decide +kernel)))) (dss_one (ds_raise (ec_InvalidText E) b.calm b.tk (b.hr.mono hk) de_int)) dss_nil)
    (dss_cons (ds_if (dt_cmp (os_eq b.h64) (de_var 0) (de_glob E.g_EMPTY rfl) (by rfl)) (dss_one (ds_ret (de_tup da_nil))) dss_nil)
    (dss_cons (ds_asg (de_call G_read_records b.tk b.gd b.hr (alen_cons (alen_cons (alen_cons alen_nil))) (da_cons (de_var 0) (da_cons de_int (da_cons de_int da_nil)))) (dg_tup b.calm (dgs_cons (dg_name (i := 1) b.nd) (dgs_cons (dg_name (i := 2) b.nd) dgs_nil))))
    (dss_cons (ds_if (dt_cmp (os_ne b.h64) (de_var 2) (de_callB cs_len rfl E.n_len (by decide +kernel) (da_cons (de_var 0) da_nil)) (by rfl)) (dss_one (ds_raise (ec_InvalidText E) b.calm b.tk (b.hr.mono hk) de_int)) dss_nil)
    (dss_one (ds_ret (de_var 1)))))))
noncomputable def F__law_deck : FnF := runD 4 (sSeq (sPar2 2 3 (aCons (eB listF (aCons (eSl slF (eVar 0) oNone (oSome (eC (.int 63)))) aNil)) (aCons (eC (.int 98129)) aNil)))
    (sSeq (sFor (iSeq (eVar 2)) (gNameF 1) (sAsg (eOp modF (eOp addF (eOp addF (eOp mulF (eVar 3) (eC (.int 48271))) (eOp modF (eVar 1) (eC (.int 2147483629)))) (eC (.int 53))) (eC (.int 2147483587))) (gNameF 3)))
    (sRet (eDic (kCons (Sum.inr "cells") (eUn revF (eVar 2)) (kCons (Sum.inr "total") (eVar 3) (kCons (Sum.inr "draws") (eC (.int 0)) kNil)))))))
theorem d__law_deck {k : Nat} (E : TB K mg) (hs : HasSys base)  : FnD mg P w K mg base (k + 1) "_law_deck" ["_law_script"] E.a__law_deck E.d__law_deck F__law_deck :=
  fnD_of E.F__law_deck.F sc__law_deck E.F__law_deck.m (E.F__law_deck.F.binds (ps := ["_law_script"]) fun _ _ _ _ _ _ us hl => match us, hl with | [_], _ => rfl) hs fun cdv A outer s H X0 b => (dss_cons (ds_par2 (i := 2) (j := 3) b.calm b.nd (da_cons (de_callTy cs_list rfl E.n_list (by decide +kernel) (da_cons (de_slice ss_sl (de_var 0) do_none (do_some de_int)) da_nil)) (da_cons de_int da_nil)))
    (dss_cons (ds_for b.po b.calm (di_seq (de_var 2)) (dg_name (i := 1) b.nd) (dss_one (ds_set (i := 3) b.nd (de_op os_mod (de_op os_add (de_op os_add (de_op os_mul (de_var 3) de_int) (de_op os_mod (de_var 1) de_int)) de_int) de_int))))
    (dss_one (ds_ret (de_dic (dps_str (de_rev (de_var 2)) (dps_str (de_var 3) (dps_str de_int dps_nil))))))))
noncomputable def F__law_draw : FnF := runD 5 (sSeq (sPar2 3 4 (aCons (eOp addF (eOp ixF (eVar 0) (eC (.str "draws"))) (eC (.int 1))) (aCons (eOp ixF (eVar 0) (eC (.str "total"))) aNil)))
    (sSeq (sSub (eVar 0) (eC (.str "draws")) (eVar 3))
    (sSeq (sIf (tVal (eOp (opB neF) (eOp ixF (eVar 0) (eC (.str "cells"))) (eB mkLst aNil))) (sSeq (sAsg (eMt "list" popF (eOp ixF (eVar 0) (eC (.str "cells"))) aNil) (gNameF 4))
    (sSeq (sIf (tVal (eOp (cmpI fun i j => decide (j ≤ i)) (eVar 4) (eOp powF (eC (.int 10)) (eC (.int 18))))) (sSeq (sExpr (eMt "list" appF (eOp ixF (eVar 0) (eC (.str "cells"))) (aCons (eOp fdivF (eVar 4) (eVar 1)) aNil)))
    (sRet (eOp modF (eVar 4) (eVar 1)))) sNil)
    (sAsg (eOp addF (eVar 4) (eOp ixF (eVar 0) (eC (.str "total")))) (gNameF 4)))) sNil)
    (sSeq (sAsg (eOp modF (eOp mulF (eOp addF (eOp addF (eOp modF (eVar 4) (eC (.int 2147483629))) (eOp mulF (eOp mulF (eC (.int 60133)) (eVar 3)) (eVar 3))) (eC (.int 41))) (eC (.int 40692))) (eC (.int 2147483647))) (gNameF 2))
    (sSeq (sAsg (eOp modF (eOp addF (eOp addF (eOp mulF (eVar 2) (eVar 2)) (eOp mulF (eC (.int 69621)) (eVar 3))) (eC (.int 23))) (eC (.int 2147483587))) (gNameF 2))
    (sRet (eOp modF (eOp fdivF (eOp modF (eOp mulF (eVar 2) (eC (.int 39373))) (eC (.int 2147483563))) (eC (.int 64))) (eVar 1))))))))
theorem d__law_draw {k : Nat} (E : TB K mg) (hs : HasSys base)  : FnD mg P w K mg base (k + 1) "_law_draw" ["_law_deck_here", "_law_many"] E.a__law_draw E.d__law_draw F__law_draw :=
  fnD_of E.F__law_draw.F sc__law_draw E.F__law_draw.m (E.F__law_draw.F.binds (ps := ["_law_deck_here", "_law_many"]) fun _ _ _ _ _ _ us hl => match us, hl with | [_, _], _ => rfl) hs fun cdv A outer s H X0 b => (dss_cons (ds_par2 (i := 3) (j := 4) b.calm b.nd (da_cons (de_op os_add (de_ix (is_ix b.hu) (de_var 0) de_str) de_int) (da_cons (de_ix (is_ix b.hu) (de_var 0) de_str) da_nil)))
    (dss_cons (ds_sub b.hu (de_var 0) de_str (de_var 3))
    (dss_cons (ds_if (dt_cmp (os_ne b.h64) (de_ix (is_ix b.hu) (de_var 0) de_str) (de_lst da_nil) (by rfl)) (dss_cons (ds_set (i := 4) b.nd (de_m0 PySem.F.plainAttrs_list PySem.F.slot_list_pop PySem.F.type_list_pop ms_pop (de_ix (is_ix b.hu) (de_var 0) de_str)))
    (dss_cons (ds_if (dt_cmp os_ge (de_var 4) (de_op os_pow de_int de_int) (by rfl)) (dss_cons (ds_expr (de_m PySem.F.plainAttrs_list PySem.F.slot_list_append PySem.F.type_list_append ms_append (de_ix (is_ix b.hu) (de_var 0) de_str) (da_cons (de_op os_fdiv (de_var 4) (de_var 1)) da_nil)))
    (dss_one (ds_ret (de_op os_mod (de_var 4) (de_var 1))))) dss_nil)
    (dss_one (ds_set (i := 4) b.nd (de_op os_add (de_var 4) (de_ix (is_ix b.hu) (de_var 0) de_str)))))) dss_nil)
    (dss_cons (ds_set (i := 2) b.nd (de_op os_mod (de_op os_mul (de_op os_add (de_op os_add (de_op os_mod (de_var 4) de_int) (de_op os_mul (de_op os_mul de_int (de_var 3)) (de_var 3))) de_int) de_int) de_int))
    (dss_cons (ds_set (i := 2) b.nd (de_op os_mod (de_op os_add (de_op os_add (de_op os_mul (de_var 2) (de_var 2)) (de_op os_mul de_int (de_var 3))) de_int) de_int))
    (dss_one (ds_ret (de_op os_mod (de_op os_fdiv (de_op os_mod (de_op os_mul (de_var 2) de_int) de_int) de_int) (de_var 1)))))))))
noncomputable def F__law_pick : FnF := runD 2 (sRet (eOp ixF (eVar 1) (eCall F__law_draw (aCons (eVar 0) (aCons (eB lenF (aCons (eVar 1) aNil)) aNil)))))
theorem d__law_pick {k : Nat} (E : TB K mg) (hs : HasSys base) (G__law_draw : FnD mg P w K mg base k "_law_draw" ["_law_deck_here", "_law_many"] E.a__law_draw E.d__law_draw F__law_draw) : FnD mg P w K mg base (k + 1) "_law_pick" ["_law_deck_here", "_law_some"] E.a__law_pick E.d__law_pick F__law_pick :=
  fnD_of E.F__law_pick.F sc__law_pick E.F__law_pick.m (E.F__law_pick.F.binds (ps := ["_law_deck_here", "_law_some"]) fun _ _ _ _ _ _ us hl => match us, hl with | [_, _], _ => rfl) hs fun cdv A outer s H X0 b => (dss_one (ds_ret (de_ix (is_ix b.hu) (de_var 1) (de_call G__law_draw b.tk b.gd b.hr (alen_cons (alen_cons alen_nil)) (da_cons (de_var 0) (da_cons (de_callB cs_len rfl E.n_len (by decide +kernel) (da_cons (de_var 1) da_nil)) da_nil))))))

noncomputable def F__law_records : Nat → FnF
  | 0 => fun _ _ => .bad
  | n + 1 => runD 11 (sSeq (sAsg (eB mkTup (aCons (eB mkLst aNil) (aCons (eC (.str "abcdefghijklmnopqrstuvwxyz")) aNil))) (gTupF 2 (gConsF (gNameF 4) (gConsF (gNameF 5) gNilF))))
    (sSeq (sFor (iRange1 (aCons (eCall F__law_pick (aCons (eVar 0) (aCons (eB mkLst (aCons (eC (.int 1)) (aCons (eC (.int 1)) (aCons (eC (.int 2)) (aCons (eC (.int 3)) aNil))))) aNil))) aNil)) (gNameF 3) (sSeq (sSub (eVar 1) (eC (.int 0)) (eOp subF (eOp ixF (eVar 1) (eC (.int 0))) (eC (.int 1))))
    (sSeq (sAsg (eMt "str" joinF (eC (.str "")) (aCons (eLC (iRange1 (aCons (eCall F__law_pick (aCons (eVar 0) (aCons (eB mkLst (aCons (eC (.int 1)) (aCons (eC (.int 1)) (aCons (eC (.int 2)) (aCons (eC (.int 8)) aNil))))) aNil))) aNil)) [10] (gNameF 10) tYesF (eCall F__law_pick (aCons (eVar 0) (aCons (eVar 5) aNil)))) aNil)) (gNameF 6))
    (sSeq (sAsg (eOp addF (eOp addF (eVar 6) (eC (.str "."))) (eB strF (aCons (eCall F__law_draw (aCons (eVar 0) (aCons (eC (.int 4)) aNil))) aNil))) (gNameF 7))
    (sSeq (sFor (iRange1 (aCons (eCall F__law_pick (aCons (eVar 0) (aCons (eB mkLst (aCons (eC (.int 0)) (aCons (eC (.int 1)) (aCons (eC (.int 1)) (aCons (eC (.int 2)) aNil))))) aNil))) aNil)) (gNameF 8) (sSeq (sAsg (eAnd (eOp (cmpI fun i j => decide (j < i)) (eOp ixF (eVar 1) (eC (.int 0))) (eC (.int 0))) (eAnd (eOp (cmpI fun i j => decide (j < i)) (eVar 2) (eC (.int 1))) (eOp (opB eqF) (eCall F__law_draw (aCons (eVar 0) (aCons (eC (.int 2)) aNil))) (eC (.int 1))))) (gNameF 9))
    (sAsg (eOp addF (eOp addF (eOp addF (eVar 7) (eC (.str "["))) (eIf (tVal (eVar 9)) (eCall (F__law_records n) (aCons (eVar 0) (aCons (eVar 1) (aCons (eOp subF (eVar 2) (eC (.int 1))) aNil)))) (eC (.str "")))) (eC (.str "]"))) (gNameF 7))))
    (sExpr (eMt "list" appF (eVar 4) (aCons (eVar 7) aNil))))))))
    (sRet (eMt "str" joinF (eC (.str " ")) (aCons (eVar 4) aNil)))))
theorem d__law_records {k : Nat} (E : TB K mg) (hs : HasSys base) (G__law_pick : FnD mg P w K mg base k "_law_pick" ["_law_deck_here", "_law_some"] E.a__law_pick E.d__law_pick F__law_pick) (G__law_draw : FnD mg P w K mg base k "_law_draw" ["_law_deck_here", "_law_many"] E.a__law_draw E.d__law_draw F__law_draw) : ∀ n : Nat, FnD mg P w K mg base (k + n) "_law_records" ["_law_deck_here", "_law_left", "_law_deep"] E.a__law_records E.d__law_records (F__law_records n)
  | 0 => fnD_bad E.F__law_records.F E.F__law_records.m (E.F__law_records.F.binds (ps := ["_law_deck_here", "_law_left", "_law_deep"]) fun _ _ _ _ _ _ us hl => match us, hl with | [_, _, _], _ => rfl)
  | n + 1 => by
    have ih := d__law_records (k := k) E hs G__law_pick G__law_draw n
    have G__law_records := ih
    have G__law_pick := G__law_pick.mono (Nat.le_add_right k n)
    have G__law_draw := G__law_draw.mono (Nat.le_add_right k n)
    exact fnD_of E.F__law_records.F sc__law_records E.F__law_records.m (E.F__law_records.F.binds (ps := ["_law_deck_here", "_law_left", "_law_deep"]) fun _ _ _ _ _ _ us hl => match us, hl with | [_, _, _], _ => rfl) hs fun cdv A outer s H X0 b => (dss_cons (ds_asg (de_tup (da_cons (de_lst da_nil) (da_cons de_str da_nil))) (dg_tup b.calm (dgs_cons (dg_name (i := 4) b.nd) (dgs_cons (dg_name (i := 5) b.nd) dgs_nil))))
    (dss_cons (ds_for b.po b.calm (di_range1 rfl E.n_range (da_cons (de_call G__law_pick b.tk b.gd b.hr (alen_cons (alen_cons alen_nil)) (da_cons (de_var 0) (da_cons (de_lst (da_cons de_int (da_cons de_int (da_cons de_int (da_cons de_int da_nil))))) da_nil))) da_nil)) (dg_name (i := 3) b.nd) (dss_cons (ds_sub b.hu (de_var 1) de_int (de_op os_sub (de_ix (is_ix b.hu) (de_var 1) de_int) de_int))
    (dss_cons (ds_set (i := 6) b.nd (de_m PySem.F.plainAttrs_str PySem.F.slot_str_join PySem.F.type_str_join ms_join de_str (da_cons (de_lc b.calm b.nd (di_range1 rfl E.n_range (da_cons (de_call G__law_pick b.tk b.gd b.hr (alen_cons (alen_cons alen_nil)) (da_cons (de_var 0) (da_cons (de_lst (da_cons de_int (da_cons de_int (da_cons de_int (da_cons de_int da_nil))))) da_nil))) da_nil)) (blkOk_by (own := [("_law_sign", 10)]) (N := ["_law_deck_here", "_law_left", "_law_deep", "_law_k", "_law_found", "_law_letters", "_law_name", "_law_one", "_law_piece", "_law_inner", "_law_sign"]) (sc := defScope s__law_records) (by decide +kernel)) (fun _ _ _ _ _ => (dg_name (i := 10) b.nd)) (fun _ _ _ _ _ => dts_nil) (fun _ _ _ _ _ => (de_call G__law_pick takes0 b.gd b.hr (alen_cons (alen_cons alen_nil)) (da_cons (de_var 0) (da_cons (de_var 5) da_nil))))) da_nil)))
    (dss_cons (ds_set (i := 7) b.nd (de_op os_add (de_op os_add (de_var 6) de_str) (de_callTy cs_str rfl E.n_str (by decide +kernel) (da_cons (de_call G__law_draw b.tk b.gd b.hr (alen_cons (alen_cons alen_nil)) (da_cons (de_var 0) (da_cons de_int da_nil))) da_nil))))
    (dss_cons (ds_for b.po b.calm (di_range1 rfl E.n_range (da_cons (de_call G__law_pick b.tk b.gd b.hr (alen_cons (alen_cons alen_nil)) (da_cons (de_var 0) (da_cons (de_lst (da_cons de_int (da_cons de_int (da_cons de_int (da_cons de_int da_nil))))) da_nil))) da_nil)) (dg_name (i := 8) b.nd) (dss_cons (ds_set (i := 9) b.nd (de_and (de_cmp os_gt (de_ix (is_ix b.hu) (de_var 1) de_int) de_int (by rfl)) (de_and (de_cmp os_gt (de_var 2) de_int (by rfl)) (de_one (de_cmp (os_eq b.h64) (de_call G__law_draw b.tk b.gd b.hr (alen_cons (alen_cons alen_nil)) (da_cons (de_var 0) (da_cons de_int da_nil))) de_int (by rfl))))))
    (dss_one (ds_set (i := 7) b.nd (de_op os_add (de_op os_add (de_op os_add (de_var 7) de_str) (de_if (dt_val (de_var 9)) (de_call G__law_records b.tk b.gd b.hr (alen_cons (alen_cons (alen_cons alen_nil))) (da_cons (de_var 0) (da_cons (de_var 1) (da_cons (de_op os_sub (de_var 2) de_int) da_nil)))) de_str)) de_str)))))
    (dss_one (ds_expr (de_m PySem.F.plainAttrs_list PySem.F.slot_list_append PySem.F.type_list_append ms_append (de_var 4) (da_cons (de_var 7) da_nil)))))))))
    (dss_one (ds_ret (de_m PySem.F.plainAttrs_str PySem.F.slot_str_join PySem.F.type_str_join ms_join de_str (da_cons (de_var 4) da_nil))))))

noncomputable def F__law_frozen : Nat → FnF
  | 0 => fun _ _ => .bad
  | n + 1 => runD 3 (sRet (eB tupleF (aCons (eLC (iSeq (eVar 0)) [1] (gNameF 1) tYesF (eB mkTup (aCons (eOp ixF (eVar 1) (eC (.int 0))) (aCons (eOp ixF (eVar 1) (eC (.int 1))) (aCons (eB tupleF (aCons (eLC (iSeq (eOp ixF (eVar 1) (eC (.int 2)))) [2] (gNameF 2) tYesF (eCall (F__law_frozen n) (aCons (eVar 2) aNil))) aNil)) aNil))))) aNil)))
theorem d__law_frozen {k : Nat} (E : TB K mg) (hs : HasSys base)  : ∀ n : Nat, FnD mg P w K mg base (k + n) "_law_frozen" ["_law_records_here"] E.a__law_frozen E.d__law_frozen (F__law_frozen n)
  | 0 => fnD_bad E.F__law_frozen.F E.F__law_frozen.m (E.F__law_frozen.F.binds (ps := ["_law_records_here"]) fun _ _ _ _ _ _ us hl => match us, hl with | [_], _ => rfl)
  | n + 1 => by
    have ih := d__law_frozen (k := k) E hs  n
    have G__law_frozen := ih
    exact fnD_of E.F__law_frozen.F sc__law_frozen E.F__law_frozen.m (E.F__law_frozen.F.binds (ps := ["_law_records_here"]) fun _ _ _ _ _ _ us hl => match us, hl with | [_], _ => rfl) hs fun cdv A outer s H X0 b => (dss_one (ds_ret (de_callTy cs_tuple rfl E.n_tuple (by decide +kernel) (da_cons (de_lc b.calm b.nd (di_seq (de_var 0)) (blkOk_by (own := [("_law_one", 1)]) (N := ["_law_records_here", "_law_one", "_law_piece"]) (sc := defScope s__law_frozen) (by decide +kernel)) (fun _ _ _ _ _ => (dg_name (i := 1) b.nd)) (fun _ _ _ _ _ => dts_nil) (fun _ _ _ _ _ => (de_tup (da_cons (de_ix (is_ix b.hu) (de_var 1) de_int) (da_cons (de_ix (is_ix b.hu) (de_var 1) de_int) (da_cons (de_callTy cs_tuple rfl E.n_tuple (by decide +kernel) (da_cons (de_lc (by exact b.calm) (by exact b.nd) (di_seq (de_ix (is_ix (by exact b.hu)) (de_var 1) de_int)) (blkOk_by (own := [("_law_piece", 2)]) (by rfl)) (fun _ _ _ _ _ => (dg_name (i := 2) (by exact b.nd))) (fun _ _ _ _ _ => dts_nil) (fun _ _ _ _ _ => (de_call G__law_frozen takes0 (by exact b.gd) (by exact b.hr) (alen_cons alen_nil) (da_cons (de_var 2) da_nil)))) da_nil)) da_nil)))))) da_nil))))
noncomputable def F__law_head : FnF := runD 3 (sSeq (sAsg (eVar 1) (gNameF 2))
    (sSeq (whGo (tAndF (tVal (eOp (cmpI fun i j => decide (i < j)) (eVar 2) (eB lenF (aCons (eVar 0) aNil)))) (tVal (eOp (opB inF) (eOp ixF (eVar 0) (eVar 2)) (eC (.str "abcdefghijklmnopqrstuvwxyz"))))) (sAsg (eOp addF (eVar 2) (eC (.int 1))) (gNameF 2)) 5000)
    (sSeq (sIf (tOrF (tVal (inRgF true (eOp subF (eVar 2) (eVar 1)) (eC (.int 1)) (eC (.int 9)))) (tOrF (tVal (eOp (opB neF) (eSl slF (eVar 0) (oSome (eVar 2)) (oSome (eOp addF (eVar 2) (eC (.int 1))))) (eC (.str ".")))) (tVal (eOp (opB fun x y st => (inF x y st).map (!·)) (eSl slF (eVar 0) (oSome (eOp addF (eVar 2) (eC (.int 1)))) (oSome (eOp addF (eVar 2) (eC (.int 2))))) (eB mkTup (aCons (eC (.str "0")) (aCons (eC (.str "1")) (aCons (eC (.str "2")) (aCons (eC (.str "3")) aNil))))))))) (sRet (eC (.non))) sNil)
    (sRet (eB mkTup (aCons (eSl slF (eVar 0) (oSome (eVar 1)) (oSome (eVar 2))) (aCons (eB intF (aCons (eOp ixF (eVar 0) (eOp addF (eVar 2) (eC (.int 1)))) aNil)) aNil)))))))
theorem d__law_head {k : Nat} (E : TB K mg) (hs : HasSys base)  : FnD mg P w K mg base (k + 1) "_law_head" ["_law_it", "_law_at"] E.a__law_head E.d__law_head F__law_head :=
  fnD_of E.F__law_head.F sc__law_head E.F__law_head.m (E.F__law_head.F.binds (ps := ["_law_it", "_law_at"]) fun _ _ _ _ _ _ us hl => match us, hl with | [_, _], _ => rfl) hs fun cdv A outer s H X0 b => (dss_cons (ds_set (i := 2) b.nd (de_var 1))
    (dss_cons (ds_while 5000 b.po (dt_w (dw_and (dt_cmp os_lt (de_var 2) (de_callB cs_len rfl E.n_len (by decide +kernel) (da_cons (de_var 0) da_nil)) (by rfl)) (dw_and1 (dt_cmp (os_in b.h64) (de_ix (is_ix b.hu) (de_var 0) (de_var 2)) de_str (by rfl))))) (dss_one (ds_set (i := 2) b.nd (de_op os_add (de_var 2) de_int))))
    (dss_cons (ds_if (dt_w (dw_or (dt_inRg (neg := true) rfl E.n_range (de_op os_sub (de_var 2) (de_var 1)) de_int de_int) (dw_or (dt_cmp (os_ne b.h64) (de_slice ss_sl (de_var 0) (do_some (de_var 2)) (do_some (de_op os_add (de_var 2) de_int))) de_str (by rfl)) (dw_or1 (dt_cmp (os_notIn b.h64) (de_slice ss_sl (de_var 0) (do_some (de_op os_add (de_var 2) de_int)) (do_some (de_op os_add (de_var 2) de_int))) (de_tup (da_cons de_str (da_cons de_str (da_cons de_str (da_cons de_str da_nil))))) (by rfl)))))) (dss_one (ds_ret de_non)) dss_nil)
    (dss_one (ds_ret (de_tup (da_cons (de_slice ss_sl (de_var 0) (do_some (de_var 1)) (do_some (de_var 2))) (da_cons (de_callTy cs_int rfl E.n_int (by decide +kernel) (da_cons (de_ix (is_ix b.hu) (de_var 0) (de_op os_add (de_var 2) de_int)) da_nil)) da_nil))))))))
noncomputable def F__law_judged : FnF := runD 8 (sSeq (sPar3 1 2 3 (aCons (eB mkTup (aCons (eC (.str "text")) (aCons (eC (.int 0)) aNil))) (aCons (eB mkLst (aCons (eB mkLst aNil) aNil)) (aCons (eC (.int 0)) aNil))))
    (sSeq (sIf (tVal (eOp (opB eqF) (eVar 0) (eC (.str "-")))) (sRet (eB mkTup (aCons (eC (.str "story")) (aCons (eB mkTup aNil) aNil)))) sNil)
    (sSeq (whGo (tAndF (tVal (eUn (isiF "str") (eVar 0))) (tVal (eOp (cmpI fun i j => decide (i < j)) (eVar 3) (eB lenF (aCons (eVar 0) aNil))))) (sSeq (sAsg (eCall F__law_head (aCons (eVar 0) (aCons (eVar 3) aNil))) (gNameF 4))
    (sSeq (sIf (tVal (eOp isNF (eVar 4) (eC (.non)))) (sRet (eVar 1)) sNil)
    (sSeq (sExpr (eMt "list" appF (eOp ixF (eVar 2) (eUn negF (eC (.int 1)))) (aCons (eB mkLst (aCons (eOp ixF (eVar 4) (eC (.int 0))) (aCons (eOp ixF (eVar 4) (eC (.int 1))) (aCons (eB mkLst aNil) aNil)))) aNil)))
    (sSeq (sPar2 3 5 (aCons (eOp addF (eOp addF (eVar 3) (eB lenF (aCons (eOp ixF (eVar 4) (eC (.int 0))) aNil))) (eC (.int 2))) (aCons (eC (.bl true)) aNil)))
    (whGo (tVal (eVar 5)) (sSeq (sAsg (eSl slF (eVar 0) (oSome (eVar 3)) (oSome (eOp addF (eVar 3) (eC (.int 1))))) (gNameF 6))
    (sSeq (sAsg (eOp addF (eVar 3) (eC (.int 1))) (gNameF 3))
    (sIf (tAndF (tVal (eOp (opB eqF) (eVar 6) (eC (.str "[")))) (tVal (eOp (cmpI fun i j => decide (i < j)) (eB lenF (aCons (eVar 2) aNil)) (eC (.int 31))))) (sSeq (sAsg (eB mkLst aNil) (gNameF 7))
    (sSeq (sExpr (eMt "list" appF (eOp ixF (eOp ixF (eOp ixF (eVar 2) (eUn negF (eC (.int 1)))) (eUn negF (eC (.int 1)))) (eC (.int 2))) (aCons (eVar 7) aNil)))
    (sSeq (sExpr (eMt "list" appF (eVar 2) (aCons (eVar 7) aNil)))
    (sAsg (eOp (opB eqF) (eSl slF (eVar 0) (oSome (eVar 3)) (oSome (eOp addF (eVar 3) (eC (.int 1))))) (eC (.str "]"))) (gNameF 5))))) (sIf (tAndF (tVal (eOp (opB eqF) (eVar 6) (eC (.str "]")))) (tVal (eOp (cmpI fun i j => decide (j < i)) (eB lenF (aCons (eVar 2) aNil)) (eC (.int 1))))) (sExpr (eMt "list" popF (eVar 2) aNil)) (sIf (tVal (eOp (opB eqF) (eVar 6) (eC (.str " ")))) (sAsg (eC (.bl false)) (gNameF 5)) (sRet (eIf (tAndF (tVal (eOp (opB eqF) (eVar 6) (eC (.str "")))) (tVal (eOp (opB eqF) (eB lenF (aCons (eVar 2) aNil)) (eC (.int 1))))) (eB mkTup (aCons (eC (.str "story")) (aCons (eCall (F__law_frozen 60) (aCons (eOp ixF (eVar 2) (eC (.int 0))) aNil)) aNil))) (eVar 1)))))))) 5000))))) 5000)
    (sRet (eVar 1)))))
theorem d__law_judged {k : Nat} (E : TB K mg) (hs : HasSys base) (G__law_head : FnD mg P w K mg base k "_law_head" ["_law_it", "_law_at"] E.a__law_head E.d__law_head F__law_head) (G__law_frozen : FnD mg P w K mg base k "_law_frozen" ["_law_records_here"] E.a__law_frozen E.d__law_frozen (F__law_frozen 60)) : FnD mg P w K mg base (k + 1) "_law_judged" ["_law_it"] E.a__law_judged E.d__law_judged F__law_judged :=
  fnD_of E.F__law_judged.F sc__law_judged E.F__law_judged.m (E.F__law_judged.F.binds (ps := ["_law_it"]) fun _ _ _ _ _ _ us hl => match us, hl with | [_], _ => rfl) hs fun cdv A outer s H X0 b => (dss_cons (ds_par3 (i := 1) (j := 2) (k := 3) b.calm b.nd (da_cons (de_tup (da_cons de_str (da_cons de_int da_nil))) (da_cons (de_lst (da_cons (de_lst da_nil) da_nil)) (da_cons de_int da_nil))))
    (dss_cons (ds_if (dt_cmp (os_eq b.h64) (de_var 0) de_str (by rfl)) (dss_one (ds_ret (de_tup (da_cons de_str (da_cons (de_tup da_nil) da_nil))))) dss_nil)
    (dss_cons (ds_while 5000 b.po (dt_w (dw_and (dt_val (de_isi (de_var 0) rfl E.n_isinstance rfl E.n_str (by decide +kernel))) (dw_and1 (dt_cmp os_lt (de_var 3) (de_callB cs_len rfl E.n_len (by decide +kernel) (da_cons (de_var 0) da_nil)) (by rfl))))) (dss_cons (ds_set (i := 4) b.nd (de_call G__law_head b.tk b.gd b.hr (alen_cons (alen_cons alen_nil)) (da_cons (de_var 0) (da_cons (de_var 3) da_nil))))
    (dss_cons (ds_if (dt_cmp os_isN (de_var 4) de_non (by rfl)) (dss_one (ds_ret (de_var 1))) dss_nil)
    (dss_cons (ds_expr (de_m PySem.F.plainAttrs_list PySem.F.slot_list_append PySem.F.type_list_append ms_append (de_ix (is_ix b.hu) (de_var 2) (de_un us_neg de_int)) (da_cons (de_lst (da_cons (de_ix (is_ix b.hu) (de_var 4) de_int) (da_cons (de_ix (is_ix b.hu) (de_var 4) de_int) (da_cons (de_lst da_nil) da_nil)))) da_nil)))
    (dss_cons (ds_par2 (i := 3) (j := 5) b.calm b.nd (da_cons (de_op os_add (de_op os_add (de_var 3) (de_callB cs_len rfl E.n_len (by decide +kernel) (da_cons (de_ix (is_ix b.hu) (de_var 4) de_int) da_nil))) de_int) (da_cons de_bl da_nil)))
    (dss_one (ds_while 5000 b.po (dt_val (de_var 5)) (dss_cons (ds_set (i := 6) b.nd (de_slice ss_sl (de_var 0) (do_some (de_var 3)) (do_some (de_op os_add (de_var 3) de_int))))
    (dss_cons (ds_set (i := 3) b.nd (de_op os_add (de_var 3) de_int))
    (dss_one (ds_if (dt_w (dw_and (dt_cmp (os_eq b.h64) (de_var 6) de_str (by rfl)) (dw_and1 (dt_cmp os_lt (de_callB cs_len rfl E.n_len (by decide +kernel) (da_cons (de_var 2) da_nil)) de_int (by rfl))))) (dss_cons (ds_set (i := 7) b.nd (de_lst da_nil))
    (dss_cons (ds_expr (de_m PySem.F.plainAttrs_list PySem.F.slot_list_append PySem.F.type_list_append ms_append (de_ix (is_ix b.hu) (de_ix (is_ix b.hu) (de_ix (is_ix b.hu) (de_var 2) (de_un us_neg de_int)) (de_un us_neg de_int)) de_int) (da_cons (de_var 7) da_nil)))
    (dss_cons (ds_expr (de_m PySem.F.plainAttrs_list PySem.F.slot_list_append PySem.F.type_list_append ms_append (de_var 2) (da_cons (de_var 7) da_nil)))
    (dss_one (ds_set (i := 5) b.nd (de_cmp (os_eq b.h64) (de_slice ss_sl (de_var 0) (do_some (de_var 3)) (do_some (de_op os_add (de_var 3) de_int))) de_str (by rfl))))))) (dss_one (ds_if (dt_w (dw_and (dt_cmp (os_eq b.h64) (de_var 6) de_str (by rfl)) (dw_and1 (dt_cmp os_gt (de_callB cs_len rfl E.n_len (by decide +kernel) (da_cons (de_var 2) da_nil)) de_int (by rfl))))) (dss_one (ds_expr (de_m0 PySem.F.plainAttrs_list PySem.F.slot_list_pop PySem.F.type_list_pop ms_pop (de_var 2)))) (dss_one (ds_if (dt_cmp (os_eq b.h64) (de_var 6) de_str (by rfl)) (dss_one (ds_set (i := 5) b.nd de_bl)) (dss_one (ds_ret (de_if (dt_w (dw_and (dt_cmp (os_eq b.h64) (de_var 6) de_str (by rfl)) (dw_and1 (dt_cmp (os_eq b.h64) (de_callB cs_len rfl E.n_len (by decide +kernel) (da_cons (de_var 2) da_nil)) de_int (by rfl))))) (de_tup (da_cons de_str (da_cons (de_call G__law_frozen b.tk b.gd b.hr (alen_cons alen_nil) (da_cons (de_ix (is_ix b.hu) (de_var 2) de_int) da_nil)) da_nil))) (de_var 1)))))))))))))))))))
    (dss_one (ds_ret (de_var 1))))))
noncomputable def F__law_bent : FnF := runD 10 (sSeq (sPar2 6 7 (aCons (eCall F__law_draw (aCons (eVar 0) (aCons (eOp addF (eB lenF (aCons (eVar 1) aNil)) (eC (.int 1))) aNil))) (aCons (eCall F__law_draw (aCons (eVar 0) (aCons (eC (.int 12)) aNil))) aNil)))
    (sSeq (sPar2 8 9 (aCons (eCall F__law_draw (aCons (eVar 0) (aCons (eOp addF (eB lenF (aCons (eVar 1) aNil)) (eC (.int 1))) aNil))) (aCons (eCall F__law_pick (aCons (eVar 0) (aCons (eC (.str "[]. -0123456789abcxyzA_\n")) aNil))) aNil)))
    (sSeq (sAsg (eMt "str" splitF (eVar 1) (aCons (eC (.str " ")) aNil)) (gNameF 2))
    (sSeq (sAsg (eCall F__law_draw (aCons (eVar 0) (aCons (eB lenF (aCons (eVar 2) aNil)) aNil))) (gNameF 3))
    (sSeq (sAsg (eB mkLst (aCons (eC (.str "")) (aCons (eC (.str "-")) (aCons (eC (.str "a")) (aCons (eC (.str "a.")) (aCons (eC (.str ".0")) (aCons (eC (.str "a.00")) (aCons (eC (.str "a.4")) (aCons (eC (.str "a.0.0")) (aCons (eC (.str "abcdefghi.0")) (aCons (eC (.str "A.0")) (aCons (eC (.str "a.0[")) (aCons (eC (.str "a.0]")) (aCons (eC (.str "[]")) (aCons (eC (.str "a.0[ ]")) aNil))))))))))))))) (gNameF 4))
    (sSeq (sAsg (eB mkLst (aCons (eOp addF (eOp addF (eSl slF (eVar 1) oNone (oSome (eVar 6))) (eVar 9)) (eSl slF (eVar 1) (oSome (eVar 6)) oNone)) (aCons (eOp addF (eSl slF (eVar 1) oNone (oSome (eVar 6))) (eSl slF (eVar 1) (oSome (eOp addF (eVar 6) (eC (.int 1)))) oNone)) (aCons (eOp addF (eOp addF (eSl slF (eVar 1) oNone (oSome (eVar 6))) (eVar 9)) (eSl slF (eVar 1) (oSome (eOp addF (eVar 6) (eC (.int 1)))) oNone)) (aCons (eOp addF (eOp addF (eSl slF (eVar 1) oNone (oSome (eVar 6))) (eC (.str "[]"))) (eSl slF (eVar 1) (oSome (eVar 6)) oNone)) aNil))))) (gNameF 5))
    (sSeq (sAsg (eOp addF (eVar 5) (eB mkLst (aCons (eOp addF (eOp addF (eSl slF (eVar 1) oNone (oSome (eVar 6))) (eSl slF (eVar 1) (oSome (eB minF (aCons (eVar 6) (aCons (eVar 8) aNil)))) (oSome (eB maxF (aCons (eVar 6) (aCons (eVar 8) aNil)))))) (eSl slF (eVar 1) (oSome (eVar 6)) oNone)) (aCons (eOp addF (eSl slF (eVar 1) oNone (oSome (eB minF (aCons (eVar 6) (aCons (eVar 8) aNil))))) (eSl slF (eVar 1) (oSome (eB maxF (aCons (eVar 6) (aCons (eVar 8) aNil)))) oNone)) aNil)))) (gNameF 5))
    (sSeq (sAsg (eOp addF (eVar 5) (eB mkLst (aCons (eMt "str" joinF (eC (.str " ")) (aCons (eOp addF (eSl slF (eVar 2) oNone (oSome (eVar 3))) (eSl slF (eVar 2) (oSome (eOp addF (eVar 3) (eC (.int 1)))) oNone)) aNil)) (aCons (eMt "str" joinF (eC (.str " ")) (aCons (eOp addF (eSl slF (eVar 2) oNone (oSome (eOp addF (eVar 3) (eC (.int 1))))) (eSl slF (eVar 2) (oSome (eVar 3)) oNone)) aNil)) (aCons (eOp addF (eC (.str " ")) (eVar 1)) (aCons (eOp addF (eVar 1) (eC (.str " "))) aNil)))))) (gNameF 5))
    (sRet (eOp ixF (eOp addF (eVar 5) (eB mkLst (aCons (eUn (replF "[" "[ ") (eVar 1)) (aCons (eMt "str" joinF (eC (.str " ")) (aCons (eOp addF (eOp addF (eSl slF (eVar 2) oNone (oSome (eVar 3))) (eB mkLst (aCons (eCall F__law_pick (aCons (eVar 0) (aCons (eVar 4) aNil))) aNil))) (eSl slF (eVar 2) (oSome (eVar 3)) oNone)) aNil)) aNil)))) (eVar 7)))))))))))
theorem d__law_bent {k : Nat} (E : TB K mg) (hs : HasSys base) (G__law_draw : FnD mg P w K mg base k "_law_draw" ["_law_deck_here", "_law_many"] E.a__law_draw E.d__law_draw F__law_draw) (G__law_pick : FnD mg P w K mg base k "_law_pick" ["_law_deck_here", "_law_some"] E.a__law_pick E.d__law_pick F__law_pick) : FnD mg P w K mg base (k + 1) "_law_bent" ["_law_deck_here", "_law_it"] E.a__law_bent E.d__law_bent F__law_bent :=
  fnD_of E.F__law_bent.F sc__law_bent E.F__law_bent.m (E.F__law_bent.F.binds (ps := ["_law_deck_here", "_law_it"]) fun _ _ _ _ _ _ us hl => match us, hl with | [_, _], _ => rfl) hs fun cdv A outer s H X0 b => (dss_cons (ds_par2 (i := 6) (j := 7) b.calm b.nd (da_cons (de_call G__law_draw b.tk b.gd b.hr (alen_cons (alen_cons alen_nil)) (da_cons (de_var 0) (da_cons (de_op os_add (de_callB cs_len rfl E.n_len (by decide +kernel) (da_cons (de_var 1) da_nil)) de_int) da_nil))) (da_cons (de_call G__law_draw b.tk b.gd b.hr (alen_cons (alen_cons alen_nil)) (da_cons (de_var 0) (da_cons de_int da_nil))) da_nil)))
    (dss_cons (ds_par2 (i := 8) (j := 9) b.calm b.nd (da_cons (de_call G__law_draw b.tk b.gd b.hr (alen_cons (alen_cons alen_nil)) (da_cons (de_var 0) (da_cons (de_op os_add (de_callB cs_len rfl E.n_len (by decide +kernel) (da_cons (de_var 1) da_nil)) de_int) da_nil))) (da_cons (de_call G__law_pick b.tk b.gd b.hr (alen_cons (alen_cons alen_nil)) (da_cons (de_var 0) (da_cons de_str da_nil))) da_nil)))
    (dss_cons (ds_set (i := 2) b.nd (de_m PySem.F.plainAttrs_str PySem.F.slot_str_split PySem.F.type_str_split ms_split (de_var 1) (da_cons de_str da_nil)))
    (dss_cons (ds_set (i := 3) b.nd (de_call G__law_draw b.tk b.gd b.hr (alen_cons (alen_cons alen_nil)) (da_cons (de_var 0) (da_cons (de_callB cs_len rfl E.n_len (by decide +kernel) (da_cons (de_var 2) da_nil)) da_nil))))
    (dss_tok (i := 4) b.nd (de1_lst (da_cons de_str (da_cons de_str (da_cons de_str (da_cons de_str (da_cons de_str (da_cons de_str (da_cons de_str (da_cons de_str (da_cons de_str (da_cons de_str (da_cons de_str (da_cons de_str (da_cons de_str da_nil))))))))))))))
    (dsst_cons (dst_of (ds_set (i := 5) b.nd (de_lst (da_cons (de_op os_add (de_op os_add (de_slice ss_sl (de_var 1) do_none (do_some (de_var 6))) (de_var 9)) (de_slice ss_sl (de_var 1) (do_some (de_var 6)) do_none)) (da_cons (de_op os_add (de_slice ss_sl (de_var 1) do_none (do_some (de_var 6))) (de_slice ss_sl (de_var 1) (do_some (de_op os_add (de_var 6) de_int)) do_none)) (da_cons (de_op os_add (de_op os_add (de_slice ss_sl (de_var 1) do_none (do_some (de_var 6))) (de_var 9)) (de_slice ss_sl (de_var 1) (do_some (de_op os_add (de_var 6) de_int)) do_none)) (da_cons (de_op os_add (de_op os_add (de_slice ss_sl (de_var 1) do_none (do_some (de_var 6))) de_str) (de_slice ss_sl (de_var 1) (do_some (de_var 6)) do_none)) da_nil)))))))
    (dsst_cons (dst_of (ds_set (i := 5) b.nd (de_op os_add (de_var 5) (de_lst (da_cons (de_op os_add (de_op os_add (de_slice ss_sl (de_var 1) do_none (do_some (de_var 6))) (de_slice ss_sl (de_var 1) (do_some (de_callB (cs_min b.calm) rfl E.n_min (by decide +kernel) (da_cons (de_var 6) (da_cons (de_var 8) da_nil)))) (do_some (de_callB (cs_max b.calm) rfl E.n_max (by decide +kernel) (da_cons (de_var 6) (da_cons (de_var 8) da_nil)))))) (de_slice ss_sl (de_var 1) (do_some (de_var 6)) do_none)) (da_cons (de_op os_add (de_slice ss_sl (de_var 1) do_none (do_some (de_callB (cs_min b.calm) rfl E.n_min (by decide +kernel) (da_cons (de_var 6) (da_cons (de_var 8) da_nil))))) (de_slice ss_sl (de_var 1) (do_some (de_callB (cs_max b.calm) rfl E.n_max (by decide +kernel) (da_cons (de_var 6) (da_cons (de_var 8) da_nil)))) do_none)) da_nil))))))
    (dsst_cons (dst_of (ds_set (i := 5) b.nd (de_op os_add (de_var 5) (de_lst (da_cons (de_m PySem.F.plainAttrs_str PySem.F.slot_str_join PySem.F.type_str_join ms_join de_str (da_cons (de_op os_add (de_slice ss_sl (de_var 2) do_none (do_some (de_var 3))) (de_slice ss_sl (de_var 2) (do_some (de_op os_add (de_var 3) de_int)) do_none)) da_nil)) (da_cons (de_m PySem.F.plainAttrs_str PySem.F.slot_str_join PySem.F.type_str_join ms_join de_str (da_cons (de_op os_add (de_slice ss_sl (de_var 2) do_none (do_some (de_op os_add (de_var 3) de_int))) (de_slice ss_sl (de_var 2) (do_some (de_var 3)) do_none)) da_nil)) (da_cons (de_op os_add de_str (de_var 1)) (da_cons (de_op os_add (de_var 1) de_str) da_nil))))))))
    (dsst_one (dst_ret (det_ix (is_ix b.hu) (det_op os_add (det_of (de_var 5)) (det_lst (dat_cons (det_repl (de_var 1)) (dat_cons (det_of (de_m PySem.F.plainAttrs_str PySem.F.slot_str_join PySem.F.type_str_join ms_join de_str (da_cons (de_op os_add (de_op os_add (de_slice ss_sl (de_var 2) do_none (do_some (de_var 3))) (de_lst (da_cons (de_call G__law_pick b.tk b.gd b.hr (alen_cons (alen_cons alen_nil)) (da_cons (de_var 0) (da_cons (de_var 4) da_nil))) da_nil))) (de_slice ss_sl (de_var 2) (do_some (de_var 3)) do_none)) da_nil))) dat_nil)))) (det_of (de_var 7)))))))))))))
noncomputable def F__law_heard : FnF := runD 5 (sSeq (sAsg (eB mkTup (aCons (eC (.str "odd")) (aCons (eC (.non)) aNil))) (gNameF 2))
    (sSeq (sTry 3 (fun cn => List.lookup cn tabx_BreakError) (sAsg (eB mkTup (aCons (eC (.str "story")) (aCons (eIf (tVal (eOp (opB eqF) (eVar 0) (eC (.int 0)))) (eCall F_parse_story (aCons (eVar 1) aNil)) (eCallK F_parse_story (fun {α} (l : List α) => l) (aCons (eVar 1) aNil))) aNil))) (gNameF 2)) fun a dd cn => (sSeq (sAsg (eOr (eUn (isxF a dd (List.lookup cn tabis_InvalidProgram_NoStory_TooGreat_TooMany)) (eVar 3)) (eNot (eUn (isxF a dd (List.lookup cn tabis_ValueError)) (eVar 3)))) (gNameF 4))
    (sIf (tAndF (tVal (eUn (isxF a dd (List.lookup cn tabis_InvalidText)) (eVar 3))) (tNotF (tVal (eVar 4)))) (sAsg (eB mkTup (aCons (eC (.str "text")) (aCons (eUn (xfF a dd (List.lookup cn tabfl_line == some true) "line") (eVar 3)) aNil))) (gNameF 2)) sNil)))
    (sRet (eVar 2))))
theorem d__law_heard {k : Nat} (E : TB K mg) (hs : HasSys base) (G_parse_story : FnD mg P w K mg base k "parse_story" ["text"] E.a_parse_story E.d_parse_story F_parse_story) : FnD mg P w K mg base (k + 1) "_law_heard" ["_law_way", "_law_it"] E.a__law_heard E.d__law_heard F__law_heard :=
  fnD_of E.F__law_heard.F sc__law_heard E.F__law_heard.m (E.F__law_heard.F.binds (ps := ["_law_way", "_law_it"]) fun _ _ _ _ _ _ us hl => match us, hl with | [_, _], _ => rfl) hs fun cdv A outer s H X0 b => (dss_cons (ds_set (i := 2) b.nd (de_tup (da_cons de_str (da_cons de_non da_nil))))
    (dss_cons (ds_try (i := 3) b.nd b.tk ⟨rfl, by decide, .inl E.D_BreakError.m⟩ (fun cn v cls e hc => (tx_BreakError E).one cn v cls e hc) (fun _ _ _ tk po => have b := b.tr tk po; (dss_one (ds_set (i := 2) b.nd (de_tup (da_cons de_str (da_cons (de_if (dt_cmp (os_eq b.h64) (de_var 0) de_int (by rfl)) (de_call G_parse_story b.tk b.gd b.hr (alen_cons alen_nil) (da_cons (de_var 1) da_nil)) (de_callK (g := (fun {α} (l : List α) => l)) G_parse_story perm_id (kb0_of (ks := ["text"]) E.F_parse_story.F fun _ _ _ _ _ _ ws hl => match ws, hl with | [_], _ => rfl) b.tk b.gd b.hr (alen_cons alen_nil) (dk_cons (de_var 1) dk_nil))) da_nil)))))) (fun a dd oe cls cn pn hcm hz hf => have b := b.su (a := a) (oe := oe) (pn := pn); (dss_cons (ds_set (i := 4) b.nd (de_or (de_isxT hz hf ((ti_InvalidProgram_NoStory_TooGreat_TooMany E).at hcm) (de_var 3) E.n_isinstance (cas_cons E.D_InvalidProgram.cln (cas_cons E.D_NoStory.cln (cas_cons E.D_TooGreat.cln (cas_cons E.D_TooMany.cln cas_nil)))) (by show 4 ≤ 1000; decide)) (de_one (de_not (de_isx hz hf ((ti_ValueError E).at hcm) (de_var 3) E.n_isinstance (.inr ⟨_, rfl, E.n_ValueError, by decide +kernel, by decide⟩))))))
    (dss_one (ds_if (dt_w (dw_and (dt_val (de_isx hz hf ((ti_InvalidText E).at hcm) (de_var 3) E.n_isinstance E.D_InvalidText.cln)) (dw_and1 (dt_not (dt_val (de_var 4)))))) (dss_one (ds_set (i := 2) b.nd (de_tup (da_cons de_str (da_cons (de_xf hz hf ((tf_line E).fld hcm) (de_var 3)) da_nil))))) dss_nil)))))
    (dss_one (ds_ret (de_var 2)))))
noncomputable def F__law_deep_ones : FnF := runD 4 (sSeq (sAsg (eB mkLst aNil) (gNameF 1))
    (sSeq (sFor (iSeq (eB mkTup (aCons (eC (.int 29)) (aCons (eC (.int 30)) (aCons (eC (.int 31)) (aCons (eC (.int 500)) aNil)))))) (gNameF 2) (sSeq (sAsg (eOp addF (eOp addF (eC (.str "a.")) (eB strF (aCons (eCall F__law_draw (aCons (eVar 0) (aCons (eC (.int 4)) aNil))) aNil))) (eC (.str "["))) (gNameF 3))
    (sSeq (sAsg (eOp addF (eVar 1) (eB mkLst (aCons (eOp addF (eOp addF (eOp mulF (eVar 3) (eVar 2)) (eC (.str "b.1"))) (eOp mulF (eC (.str "]")) (eVar 2))) (aCons (eOp addF (eOp mulF (eVar 3) (eVar 2)) (eOp mulF (eC (.str "]")) (eVar 2))) (aCons (eOp addF (eOp mulF (eVar 3) (eVar 2)) (eC (.str "b.1"))) aNil))))) (gNameF 1))
    (sExpr (eMt "list" appF (eVar 1) (aCons (eOp addF (eOp addF (eOp mulF (eVar 3) (eVar 2)) (eC (.str "b.1"))) (eOp mulF (eC (.str "]")) (eOp subF (eVar 2) (eC (.int 1))))) aNil))))))
    (sRet (eOp addF (eVar 1) (eB mkLst (aCons (eOp mulF (eC (.str "a.0[")) (eC (.int 1000))) (aCons (eOp mulF (eC (.str "[")) (eC (.int 4000))) (aCons (eOp mulF (eC (.str "]")) (eC (.int 4000))) (aCons (eOp addF (eC (.str "a.0")) (eOp mulF (eC (.str "[]")) (eC (.int 1900)))) (aCons (eOp addF (eC (.str "a.0[]")) (eOp mulF (eC (.str "]")) (eC (.int 900)))) (aCons (eOp mulF (eC (.str "a")) (eC (.int 4000))) aNil)))))))))))
theorem d__law_deep_ones {k : Nat} (E : TB K mg) (hs : HasSys base) (G__law_draw : FnD mg P w K mg base k "_law_draw" ["_law_deck_here", "_law_many"] E.a__law_draw E.d__law_draw F__law_draw) : FnD mg P w K mg base (k + 1) "_law_deep_ones" ["_law_deck_here"] E.a__law_deep_ones E.d__law_deep_ones F__law_deep_ones :=
  fnD_of E.F__law_deep_ones.F sc__law_deep_ones E.F__law_deep_ones.m (E.F__law_deep_ones.F.binds (ps := ["_law_deck_here"]) fun _ _ _ _ _ _ us hl => match us, hl with | [_], _ => rfl) hs fun cdv A outer s H X0 b => (dss_cons (ds_set (i := 1) b.nd (de_lst da_nil))
    (dss_cons (ds_for b.po b.calm (di_seq (de_tup (da_cons de_int (da_cons de_int (da_cons de_int (da_cons de_int da_nil)))))) (dg_name (i := 2) b.nd) (dss_cons (ds_set (i := 3) b.nd (de_op os_add (de_op os_add de_str (de_callTy cs_str rfl E.n_str (by decide +kernel) (da_cons (de_call G__law_draw b.tk b.gd b.hr (alen_cons (alen_cons alen_nil)) (da_cons (de_var 0) (da_cons de_int da_nil))) da_nil))) de_str))
    (dss_cons (ds_set (i := 1) b.nd (de_op os_add (de_var 1) (de_lst (da_cons (de_op os_add (de_op os_add (de_op os_mul (de_var 3) (de_var 2)) de_str) (de_op os_mul de_str (de_var 2))) (da_cons (de_op os_add (de_op os_mul (de_var 3) (de_var 2)) (de_op os_mul de_str (de_var 2))) (da_cons (de_op os_add (de_op os_mul (de_var 3) (de_var 2)) de_str) da_nil))))))
    (dss_one (ds_expr (de_m PySem.F.plainAttrs_list PySem.F.slot_list_append PySem.F.type_list_append ms_append (de_var 1) (da_cons (de_op os_add (de_op os_add (de_op os_mul (de_var 3) (de_var 2)) de_str) (de_op os_mul de_str (de_op os_sub (de_var 2) de_int))) da_nil)))))))
    (dss_one (ds_ret (de_op os_add (de_var 1) (de_lst (da_cons (de_op os_mul de_str de_int) (da_cons (de_op os_mul de_str de_int) (da_cons (de_op os_mul de_str de_int) (da_cons (de_op os_add de_str (de_op os_mul de_str de_int)) (da_cons (de_op os_add de_str (de_op os_mul de_str de_int)) (da_cons (de_op os_mul de_str de_int) da_nil))))))))))))
noncomputable def F_law : FnF := runD 9 (sSeq (sAsg (eCall F__law_deck (aCons (eVar 0) aNil)) (gNameF 1))
    (sSeq (sAsg (eB mkLst (aCons (eC (.non)) (aCons (eC (.bl true)) (aCons (eC (.int 0)) (aCons (eC (.int 7)) (aCons (eB mkTup aNil) (aCons (eB mkTup (aCons (eC (.str "a.0")) aNil)) (aCons (eB mkLst aNil) (aCons (eB mkLst (aCons (eC (.str "a.0")) aNil)) (aCons (eDic kNil) (aCons (eDic (kCons (Sum.inr "a.0") (eC (.int 0)) kNil)) (aCons (eB mkTup (aCons (eB mkTup (aCons (eC (.str "a")) (aCons (eC (.int 0)) (aCons (eB mkTup aNil) aNil)))) aNil)) (aCons (eC (.str "")) (aCons (eC (.str "-")) (aCons (eC (.str "--")) (aCons (eC (.str "- ")) (aCons (eC (.str " -")) aNil))))))))))))))))) (gNameF 2))
    (sSeq (sFor (iRange1 (aCons (eC (.int 4)) aNil)) (gNameF 3) (sSeq (sAsg (eSl slF (eCall (F__law_records 60) (aCons (eVar 1) (aCons (eB mkLst (aCons (eC (.int 40)) aNil)) (aCons (eC (.int 8)) aNil)))) oNone (oSome (eC (.int 3000)))) (gNameF 5))
    (sSeq (sExpr (eMt "list" appF (eVar 2) (aCons (eVar 5) aNil)))
    (sFor (iRange1 (aCons (eC (.int 15)) aNil)) (gNameF 6) (sSeq (sAsg (eCall F__law_bent (aCons (eVar 1) (aCons (eVar 5) aNil))) (gNameF 7))
    (sExpr (eMt "list" appF (eVar 2) (aCons (eIf (tVal (eOp (opB eqF) (eCall F__law_draw (aCons (eVar 1) (aCons (eC (.int 3)) aNil))) (eC (.int 0)))) (eSl slF (eCall F__law_bent (aCons (eVar 1) (aCons (eVar 7) aNil))) oNone (oSome (eC (.int 4000)))) (eSl slF (eVar 7) oNone (oSome (eC (.int 4000))))) aNil))))))))
    (sSeq (sAsg (eOp addF (eVar 2) (eCall F__law_deep_ones (aCons (eVar 1) aNil))) (gNameF 2))
    (sSeq (sFor (iRange1 (aCons (eC (.int 2)) aNil)) (gNameF 4) (sFor (iSeq (eVar 2)) (gNameF 5) (sSeq (sAsg (eB reprF (aCons (eVar 5) aNil)) (gNameF 8))
    (sIf (tOrF (tVal (eOp (opB neF) (eB reprF (aCons (eCall F__law_heard (aCons (eVar 4) (aCons (eVar 5) aNil))) aNil)) (eB reprF (aCons (eCall F__law_judged (aCons (eVar 5) aNil)) aNil)))) (tVal (eOp (opB neF) (eB reprF (aCons (eVar 5) aNil)) (eVar 8)))) (sRet (eC (.bl false))) sNil))))
    (sRet (eC (.bl true))))))))
theorem d_law {k : Nat} (E : TB K mg) (hs : HasSys base) (G__law_deck : FnD mg P w K mg base k "_law_deck" ["_law_script"] E.a__law_deck E.d__law_deck F__law_deck) (G__law_records : FnD mg P w K mg base k "_law_records" ["_law_deck_here", "_law_left", "_law_deep"] E.a__law_records E.d__law_records (F__law_records 60)) (G__law_bent : FnD mg P w K mg base k "_law_bent" ["_law_deck_here", "_law_it"] E.a__law_bent E.d__law_bent F__law_bent) (G__law_draw : FnD mg P w K mg base k "_law_draw" ["_law_deck_here", "_law_many"] E.a__law_draw E.d__law_draw F__law_draw) (G__law_deep_ones : FnD mg P w K mg base k "_law_deep_ones" ["_law_deck_here"] E.a__law_deep_ones E.d__law_deep_ones F__law_deep_ones) (G__law_heard : FnD mg P w K mg base k "_law_heard" ["_law_way", "_law_it"] E.a__law_heard E.d__law_heard F__law_heard) (G__law_judged : FnD mg P w K mg base k "_law_judged" ["_law_it"] E.a__law_judged E.d__law_judged F__law_judged) : FnD mg P w K mg base (k + 1) "law" ["_law_script"] E.a_law E.d_law F_law :=
  fnD_of E.F_law.F sc_law E.F_law.m (E.F_law.F.binds (ps := ["_law_script"]) fun _ _ _ _ _ _ us hl => match us, hl with | [_], _ => rfl) hs fun cdv A outer s H X0 b => (dss_cons (ds_set (i := 1) b.nd (de_call G__law_deck b.tk b.gd b.hr (alen_cons alen_nil) (da_cons (de_var 0) da_nil)))
    (dss_cons (ds_set (i := 2) b.nd (de_lst (da_cons de_non (da_cons de_bl (da_cons de_int (da_cons de_int (da_cons (de_tup da_nil) (da_cons (de_tup (da_cons de_str da_nil)) (da_cons (de_lst da_nil) (da_cons (de_lst (da_cons de_str da_nil)) (da_cons de_dic0 (da_cons (de_dic (dps_str de_int dps_nil)) (da_cons (de_tup (da_cons (de_tup (da_cons de_str (da_cons de_int (da_cons (de_tup da_nil) da_nil)))) da_nil)) (da_cons de_str (da_cons de_str (da_cons de_str (da_cons de_str (da_cons de_str da_nil))))))))))))))))))
    (dss_cons (ds_for b.po b.calm (di_range1 rfl E.n_range (da_cons de_int da_nil)) (dg_name (i := 3) b.nd) (dss_cons (ds_set (i := 5) b.nd (de_slice ss_sl (de_call G__law_records b.tk b.gd b.hr (alen_cons (alen_cons (alen_cons alen_nil))) (da_cons (de_var 1) (da_cons (de_lst (da_cons de_int da_nil)) (da_cons de_int da_nil)))) do_none (do_some de_int)))
    (dss_cons (ds_expr (de_m PySem.F.plainAttrs_list PySem.F.slot_list_append PySem.F.type_list_append ms_append (de_var 2) (da_cons (de_var 5) da_nil)))
    (dss_one (ds_for b.po b.calm (di_range1 rfl E.n_range (da_cons de_int da_nil)) (dg_name (i := 6) b.nd) (dss_cons (ds_set (i := 7) b.nd (de_call G__law_bent b.tk b.gd b.hr (alen_cons (alen_cons alen_nil)) (da_cons (de_var 1) (da_cons (de_var 5) da_nil))))
    (dss_one (ds_expr (de_m PySem.F.plainAttrs_list PySem.F.slot_list_append PySem.F.type_list_append ms_append (de_var 2) (da_cons (de_if (dt_cmp (os_eq b.h64) (de_call G__law_draw b.tk b.gd b.hr (alen_cons (alen_cons alen_nil)) (da_cons (de_var 1) (da_cons de_int da_nil))) de_int (by rfl)) (de_slice ss_sl (de_call G__law_bent b.tk b.gd b.hr (alen_cons (alen_cons alen_nil)) (da_cons (de_var 1) (da_cons (de_var 7) da_nil))) do_none (do_some de_int)) (de_slice ss_sl (de_var 7) do_none (do_some de_int))) da_nil))))))))))
    (dss_cons (ds_set (i := 2) b.nd (de_op os_add (de_var 2) (de_call G__law_deep_ones b.tk b.gd b.hr (alen_cons alen_nil) (da_cons (de_var 1) da_nil))))
    (dss_cons (ds_for b.po b.calm (di_range1 rfl E.n_range (da_cons de_int da_nil)) (dg_name (i := 4) b.nd) (dss_one (ds_for b.po b.calm (di_seq (de_var 2)) (dg_name (i := 5) b.nd) (dss_cons (ds_set (i := 8) b.nd (de_callB (cs_repr b.sys b.h160 b.gd) rfl E.n_repr (by decide +kernel) (da_cons (de_var 5) da_nil)))
    (dss_one (ds_if (dt_w (dw_or (dt_cmp (os_ne b.h64) (de_callB (cs_repr b.sys b.h160 b.gd) rfl E.n_repr (by decide +kernel) (da_cons (de_call G__law_heard b.tk b.gd b.hr (alen_cons (alen_cons alen_nil)) (da_cons (de_var 4) (da_cons (de_var 5) da_nil))) da_nil)) (de_callB (cs_repr b.sys b.h160 b.gd) rfl E.n_repr (by decide +kernel) (da_cons (de_call G__law_judged b.tk b.gd b.hr (alen_cons alen_nil) (da_cons (de_var 5) da_nil)) da_nil)) (by rfl)) (dw_or1 (dt_cmp (os_ne b.h64) (de_callB (cs_repr b.sys b.h160 b.gd) rfl E.n_repr (by decide +kernel) (da_cons (de_var 5) da_nil)) (de_var 8) (by rfl))))) (dss_one (ds_ret de_bl)) dss_nil))))))
    (dss_one (ds_ret de_bl)))))))
/-- the law's def, all its callees built up -/
theorem all_d (E : TB K mg) (hs : HasSys base) : FnD mg P w K mg base 105 "law" ["_law_script"] E.a_law E.d_law F_law := by
  have G_is_name := d_is_name (P := P) (w := w) (base := base) (k := 0) E hs 
  obtain ⟨G_read_piece, G_read_record, G_read_records⟩ := d_read_piece (P := P) (w := w) (base := base) (k := 2) E hs (by decide) (G_is_name.mono (by decide)) 100
  have G_parse_story := d_parse_story (P := P) (w := w) (base := base) (k := 102) E hs (by decide) (G_read_records.mono (by decide))
  have G__law_deck := d__law_deck (P := P) (w := w) (base := base) (k := 0) E hs 
  have G__law_draw := d__law_draw (P := P) (w := w) (base := base) (k := 0) E hs 
  have G__law_pick := d__law_pick (P := P) (w := w) (base := base) (k := 1) E hs (G__law_draw.mono (by decide))
  have G__law_records := d__law_records (P := P) (w := w) (base := base) (k := 2) E hs (G__law_pick.mono (by decide)) (G__law_draw.mono (by decide)) 60
  have G__law_frozen := d__law_frozen (P := P) (w := w) (base := base) (k := 0) E hs  60
  have G__law_head := d__law_head (P := P) (w := w) (base := base) (k := 0) E hs 
  have G__law_judged := d__law_judged (P := P) (w := w) (base := base) (k := 60) E hs (G__law_head.mono (by decide)) (G__law_frozen.mono (by decide))
  have G__law_bent := d__law_bent (P := P) (w := w) (base := base) (k := 2) E hs (G__law_draw.mono (by decide)) (G__law_pick.mono (by decide))
  have G__law_heard := d__law_heard (P := P) (w := w) (base := base) (k := 103) E hs (G_parse_story.mono (by decide))
  have G__law_deep_ones := d__law_deep_ones (P := P) (w := w) (base := base) (k := 1) E hs (G__law_draw.mono (by decide))
  have G_law := d_law (P := P) (w := w) (base := base) (k := 104) E hs (G__law_deck.mono (by decide)) (G__law_records.mono (by decide)) (G__law_bent.mono (by decide)) (G__law_draw.mono (by decide)) (G__law_deep_ones.mono (by decide)) (G__law_heard.mono (by decide)) (G__law_judged.mono (by decide))
  exact G_law
end
theorem end_F {P : Program} {w : World} {K : PySem.W.Frag} {mg : Str → Option Value} {fa : Addr} (hmg : mg "law" = some (.ref fa)) (E : TB K mg) (hF : ∀ ns : List Int, ns.length ≤ 63 → ∃ st, F_law [.scr ns] [] = .ok (.bl true) st) :
    ∃ (cm : Str → Option Value) (fd : FuncData) (Fl : FnF), (∀ (s : Shared) (u : Value), BindsTo s fd ⟨[u], []⟩ [("_law_script", u)]) ∧ (∀ base : Heap, K.In base → base.Ns mainGlobals mg → HasSys base → FnG P w K mg base 105 fa fd ["_law_script"] (spD cm K 1 Fl)) ∧
      ∀ ns : List Int, ns.length ≤ 63 → ∃ st, Fl [.scr ns] [] = .ok (.bl true) st := by
  obtain rfl : fa = E.a_law := by
    have e := hmg.symm.trans E.F_law.m
    injection e with e
    injection e
  refine ⟨mg, E.d_law, F_law, fun s u => ?_, fun base kb hb hs => (all_d E hs).ok, hF⟩
  obtain ⟨oc, od, kV, doc, pm, an, cdv, ct, osl, hfd, lk, hcd⟩ := E.F_law.F.ex
  rw [hfd]
  exact .of_eq rfl

end Mi
set_option Elab.async false
set_option linter.all false
set_option maxRecDepth 100000
set_option maxHeartbeats 1000000
/-! Pa: the deck of k11. -/
namespace Mi
open PySem
/-- what the deck's dict holds -/
def dkv (m k : Int) : List (L2.Key × D) := [(Sum.inr "cells", .ref 2), (Sum.inr "total", .int m), (Sum.inr "draws", .int k)]
theorem dkv_c {m k : Int} : kvGet (dkv m k) (Sum.inr "cells") = some (.ref 2) := rfl
theorem dkv_m {m k : Int} : kvGet (dkv m k) (Sum.inr "total") = some (.int m) := rfl
theorem dkv_d {m k : Int} : kvGet (dkv m k) (Sum.inr "draws") = some (.int k) := rfl
theorem dkv_p {m k j : Int} : kvPut (dkv m k) (Sum.inr "draws") (.int j) = dkv m j := rfl
def Deck (st : Store) (k : Nat) : Prop := ∃ (c : List Int) (m : Int), st[3]? = some (.dic (dkv m k)) ∧ st[2]? = some (.lst (c.map .int)) ∧ c.length ≤ 63 ∧ 0 ≤ m ∧ m < 2147483587
theorem draw_ok {st : Store} {k : Nat} {w : Int} {Q : D → Store → Prop} (h : Deck st k) (hk : k < 2 ^ 32) (h0 : 0 < w) (hw : w ≤ 1000000000) (q : ∀ r st', 0 ≤ r → r < w → Deck st' (k + 1) → Grow [2, 3] st st' → Q (.int r) st') : Ev (F__law_draw [.ref 3, .int w] st) Q := by
  obtain ⟨c, m, h3, h2, hc, m0, m1⟩ := h
  simp only [F__law_draw, ev_run, evs_nil, evs_seq, evs_ret, evs_retN, evs_expr, evs_if, evs_set, evs_par2, evs_par3, evs_sub, evs_match, evs_mnil, evs_mcons, evs_for, ev_c, ev_v, ev_op, ev_un, ev_val, ev_bl, ev_tnot, ev_tand, ev_tor, ev_not, ev_and, ev_or, ev_if, ev_chain, ev_nil, ev_cons, ev_b, ev_call, ev_callK, ev_none, ev_some, ev_sl, ev_mt, ev_knil, ev_kcons, ev_dic, ev_iseq, ev_lc, ev_yes, ev_range1, ev_enum, ev_ok, ev_okX, List.map_cons, List.map_nil, List.length_cons, List.length_nil, List.replicate, List.cons_append, List.nil_append, List.getElem?_cons_zero, List.getElem?_cons_succ, List.set_cons_zero, List.set_cons_succ]
  rw [o_dic h3 dkv_d, o_add, o_dic h3 dkv_m]
  rw [set_str h3 (by show 3 < 16777216; decide)]
  dsimp only
  have ek : ((k : Nat) : Int) + 1 = ((k + 1 : Nat) : Int) := by omega
  rw [ek, dkv_p]
  generalize hs1 : st.set 3 _ = st1
  have h3' : st1[3]? = some (.dic (dkv m ((k + 1 : Nat) : Int))) := by rw [← hs1]; exact get_set h3
  have h2' : st1[2]? = some (.lst (c.map .int)) := by rw [← hs1]; exact get_ne h2 (by decide)
  have g1 : Grow [2, 3] st st1 := by rw [← hs1]; exact Grow.set _ (by decide)
  clear hs1 h3 h2
  rw [o_dic h3' dkv_c, o_mkLst (by decide)]
  generalize hs2 : st1 ++ [O.lst []] = st2
  have h3 : st2[3]? = some (.dic (dkv m ((k + 1 : Nat) : Int))) := by rw [← hs2]; exact get_app h3'
  have h2 : st2[2]? = some (.lst (c.map .int)) := by rw [← hs2]; exact get_app h2'
  have g2 : Grow [2, 3] st st2 := by rw [← hs2]; exact g1.trans (Grow.app _)
  have hn : st2[st1.length]? = some (.lst []) := by rw [← hs2]; exact get_new
  clear hs2
  rw [o_opB (ne_nil h2 hn), ev_bl]
  have fin : ∀ (x : Int) (st2 : Store) (c : List Int), st2[3]? = some (.dic (dkv m ((k + 1 : Nat) : Int))) → st2[2]? = some (.lst (c.map .int)) → c.length ≤ 63 → Grow [2, 3] st st2 →
    EvO (modF (.int x) (D.int 2147483629) st2) fun x_5 st1 => EvO (mulF (D.int 60133) (.int ((k + 1 : Nat) : Int)) st1) fun x_6 st1 => EvO (mulF x_6 (.int ((k + 1 : Nat) : Int)) st1) fun y st2 => EvO (addF x_5 y st2) fun x_7 st1 => EvO (addF x_7 (D.int 41) st1) fun x_8 st1 =>
      EvO (mulF x_8 (D.int 40692) st1) fun x_9 st1 => EvO (modF x_9 (D.int 2147483647) st1) fun d st1 => EvO (mulF d d st1) fun x_10 st1 => EvO (mulF (D.int 69621) (.int ((k + 1 : Nat) : Int)) st1) fun y st2 => EvO (addF x_10 y st2) fun x st1 => EvO (addF x (D.int 23) st1) fun x st1 =>
      EvO (modF x (D.int 2147483587) st1) fun d st1 => EvO (mulF d (D.int 39373) st1) fun x st1 => EvO (modF x (D.int 2147483563) st1) fun x st1 => EvO (fdivF x (D.int 64) st1) fun x st1 => EvO (modF x (D.int w) st1) Q := by
    intro x st2 c h3 h2 hc g
    have kk : (((k + 1 : Nat) : Int)) ≤ 4294967296 := by omega
    have k0 : 0 ≤ (((k + 1 : Nat) : Int)) := by omega
    have fin1 : ∀ r, 0 ≤ r → r < w → Q (.int r) st2 := fun r a b => q r st2 a b ⟨c, m, h3, h2, hc, m0, m1⟩ g
    generalize (((k + 1 : Nat) : Int)) = t at kk k0 ⊢
    have p1 : t * t ≤ 4294967296 * 4294967296 := Int.mul_le_mul kk kk k0 (by decide)
    have p0 : 0 ≤ t * t := Int.mul_nonneg k0 k0
    have a1 : 60133 * t * t = 60133 * (t * t) := Int.mul_assoc _ _ _
    have n1 : t.natAbs < 2 ^ 200 := by omega
    have n2 : (60133 * t).natAbs < 2 ^ 200 := by omega
    rw [o_mod (by decide), o_mul (by decide) n1, o_mul n2 n1, o_add, o_add, a1]
    generalize t * t = tt at p1 p0 ⊢
    have x0 := Int.emod_nonneg x (b := 2147483629) (by decide)
    have x1 := Int.emod_lt_of_pos x (b := 2147483629) (by decide)
    have n3 : (x % 2147483629 + 60133 * tt + 41).natAbs < 2 ^ 200 := by omega
    rw [o_mul n3 (by decide), o_mod (by decide)]
    generalize hu : (x % 2147483629 + 60133 * tt + 41) * 40692 % 2147483647 = u
    have u0 : 0 ≤ u := by rw [← hu]; exact Int.emod_nonneg _ (by decide)
    have u1 : u < 2147483647 := by rw [← hu]; exact Int.emod_lt_of_pos _ (by decide)
    clear hu
    have n4 : u.natAbs < 2 ^ 200 := by omega
    rw [o_mul n4 n4, o_mul (by decide) n1, o_add, o_add, o_mod (by decide)]
    generalize hv : (u * u + 69621 * t + 23) % 2147483587 = v
    have v0 : 0 ≤ v := by rw [← hv]; exact Int.emod_nonneg _ (by decide)
    have v1 : v < 2147483587 := by rw [← hv]; exact Int.emod_lt_of_pos _ (by decide)
    clear hv
    have n5 : v.natAbs < 2 ^ 200 := by omega
    rw [o_mul n5 (by decide), o_mod (by decide), o_fdiv (by decide) (by decide), o_mod h0]
    exact fin1 _ (Int.emod_nonneg _ (by omega)) (Int.emod_lt_of_pos _ h0)
  cases hcc : c.getLast? with
  | none =>
    have hce : c = [] := List.getLast?_eq_none_iff.mp hcc
    subst hce
    rw [if_neg (by simp)]
    exact fin m st2 [] h3 h2 hc g2
  | some y =>
    have hne : c ≠ [] := by rintro rfl; cases hcc
    have hemp : (!(c.map D.int).isEmpty) = true := by
      cases c with
      | nil => exact absurd rfl hne
      | cons _ _ => rfl
    rw [if_pos hemp, o_dic h3 dkv_c]
    refine ⟨ty_lst h2, ?_⟩
    have hl : (c.map D.int).getLast? = some (.int y) := by rw [List.getLast?_map, hcc]; rfl
    rw [o_pop h2 hl, ← List.map_dropLast]
    generalize hs3 : st2.set 2 _ = st3
    have h3' : st3[3]? = some (.dic (dkv m ((k + 1 : Nat) : Int))) := by rw [← hs3]; exact get_ne h3 (by decide)
    have h2' : st3[2]? = some (.lst (c.dropLast.map .int)) := by rw [← hs3]; exact get_set h2
    have g3 : Grow [2, 3] st st3 := by rw [← hs3]; exact g2.trans (Grow.set _ (by decide))
    have hc' : c.dropLast.length ≤ 62 := by rw [List.length_dropLast]; omega
    clear hs3
    rw [o_pow (by decide) (by decide) (by decide), o_cmp, ev_bl]
    by_cases big : (10 : Int) ^ (Int.toNat 18) ≤ y
    · rw [if_pos (decide_eq_true big), o_dic h3' dkv_c]
      refine ⟨ty_lst h2', ?_⟩
      have nw : w.natAbs < 2 ^ 200 := by omega
      have hlen : (c.dropLast.map D.int).length < LIM := by
        rw [List.length_map]
        show _ < 16777216
        omega
      rw [o_fdiv h0 nw, o_app h2' hlen, o_mod h0]
      refine q _ _ (Int.emod_nonneg _ (by omega)) (Int.emod_lt_of_pos _ h0) ⟨c.dropLast ++ [y / w], m, get_ne h3' (by decide), ?_, ?_, m0, m1⟩ (g3.trans (Grow.set _ (by decide)))
      · rw [get_set h2', List.map_append]; rfl
      · rw [List.length_append, List.length_singleton]; omega
    · rw [if_neg (by simpa using big), o_dic h3' dkv_m, o_add]
      exact fin _ st3 _ h3' h2' (by omega) g3
theorem cutD_map {α β : Type} (f : α → β) (xs : List α) (lo hi : Option Int) : cutD (xs.map f) lo hi = (cutD xs lo hi).map f := by
  unfold cutD
  rw [List.length_map, ← List.map_drop, ← List.map_take]
theorem deck_ok {ns : List Int} (h : ns.length ≤ 63) {Q : D → Store → Prop} (q : ∀ st', Deck st' 0 → Q (.ref 3) st') : Ev (F__law_deck [.scr ns] []) Q := by
  simp only [F__law_deck, ev_run, evs_nil, evs_seq, evs_ret, evs_retN, evs_expr, evs_if, evs_set, evs_par2, evs_par3, evs_sub, evs_match, evs_mnil, evs_mcons, evs_for, ev_c, ev_v, ev_op, ev_un, ev_val, ev_bl, ev_tnot, ev_tand, ev_tor, ev_not, ev_and, ev_or, ev_if, ev_chain, ev_nil, ev_cons, ev_b, ev_call, ev_callK, ev_none, ev_some, ev_sl, ev_mt, ev_knil, ev_kcons, ev_dic, ev_iseq, ev_lc, ev_yes, ev_range1, ev_enum, ev_ok, ev_okX, List.map_cons, List.map_nil, List.length_cons, List.length_nil, List.replicate, List.cons_append, List.nil_append, List.getElem?_cons_zero, List.getElem?_cons_succ, List.set_cons_zero, List.set_cons_succ]
  show EvO (alloc (.lst (cutD (ns.map D.int) none (some 63))) []) _
  rw [evo_alloc, cutD_map]
  have hlen : (cutD ns none (some 63)).length ≤ 63 := by
    unfold cutD
    rw [List.length_take, List.length_drop]
    omega
  generalize cutD ns none (some 63) = c at hlen
  show EvO (alloc (.lst (c.map D.int)) [O.lst (c.map D.int)]) _
  rw [evo_alloc]
  show Ev (R.ok ({ items := c.map D.int, still := fun st' => st'[1]? = some (.lst (c.map D.int)) } : IT) [O.lst (c.map D.int), O.lst (c.map D.int)]) _
  first | rw [ev_ok] | rw [ev_okX]
  dsimp only
  refine evs_forGo (fun _ p s => s = [O.lst (c.map D.int), O.lst (c.map D.int)] ∧ ∃ o m, p = [some (.scr ns), o, some (.ref 1), some (.int m)] ∧ 0 ≤ m ∧ m < 2147483587) _ 0 _ _ ⟨rfl, none, _, rfl, by decide, by decide⟩ (fun i p s _ _ h => by rw [h.1]; rfl) (fun i d p s _ hd hI => ?_) (fun p s hI => ?_)
  · obtain ⟨rfl, o, m, rfl, m0, m1⟩ := hI
    rw [List.getElem?_map] at hd
    obtain ⟨x, _, rfl⟩ := Option.map_eq_some_iff.mp hd
    refine ⟨_, rfl, ?_⟩
    simp only [ev_run, evs_nil, evs_seq, evs_ret, evs_retN, evs_expr, evs_if, evs_set, evs_par2, evs_par3, evs_sub, evs_match, evs_mnil, evs_mcons, evs_for, ev_c, ev_v, ev_op, ev_un, ev_val, ev_bl, ev_tnot, ev_tand, ev_tor, ev_not, ev_and, ev_or, ev_if, ev_chain, ev_nil, ev_cons, ev_b, ev_call, ev_callK, ev_none, ev_some, ev_sl, ev_mt, ev_knil, ev_kcons, ev_dic, ev_iseq, ev_lc, ev_yes, ev_range1, ev_enum, ev_ok, ev_okX, List.map_cons, List.map_nil, List.length_cons, List.length_nil, List.replicate, List.cons_append, List.nil_append, List.getElem?_cons_zero, List.getElem?_cons_succ, List.set_cons_zero, List.set_cons_succ]
    have n1 : m.natAbs < 2 ^ 200 := by omega
    rw [o_mul n1 (by decide), o_mod (by decide), o_add, o_add, o_mod (by decide)]
    exact ⟨rfl, _, _, rfl, Int.emod_nonneg _ (by decide), Int.emod_lt_of_pos _ (by decide)⟩
  · obtain ⟨rfl, o, m, rfl, m0, m1⟩ := hI
    simp only [ev_run, evs_nil, evs_seq, evs_ret, evs_retN, evs_expr, evs_if, evs_set, evs_par2, evs_par3, evs_sub, evs_match, evs_mnil, evs_mcons, evs_for, ev_c, ev_v, ev_op, ev_un, ev_val, ev_bl, ev_tnot, ev_tand, ev_tor, ev_not, ev_and, ev_or, ev_if, ev_chain, ev_nil, ev_cons, ev_b, ev_call, ev_callK, ev_none, ev_some, ev_sl, ev_mt, ev_knil, ev_kcons, ev_dic, ev_iseq, ev_lc, ev_yes, ev_range1, ev_enum, ev_ok, ev_okX, List.map_cons, List.map_nil, List.length_cons, List.length_nil, List.replicate, List.cons_append, List.nil_append, List.getElem?_cons_zero, List.getElem?_cons_succ, List.set_cons_zero, List.set_cons_succ]
    show EvO (alloc (.lst (c.map D.int).reverse) [O.lst (c.map D.int), O.lst (c.map D.int)]) _
    rw [evo_alloc, o_mkDic (by show 3 ≤ 15; decide)]
    have dk : Deck ([O.lst (c.map D.int), O.lst (c.map D.int)] ++ [O.lst (c.map D.int).reverse] ++ [O.dic (dkv m 0)]) 0 := ⟨c.reverse, m, rfl, by rw [List.map_reverse]; rfl, by rw [List.length_reverse]; exact hlen, m0, m1⟩
    exact q _ dk
theorem pick_tup {st : Store} {k : Nat} {ds : List D} {Q : D → Store → Prop} (h : Deck st k) (hk : k < 2 ^ 32) (h0 : ds ≠ []) (hw : ds.length ≤ 1000000000) (q : ∀ d st', d ∈ ds → Deck st' (k + 1) → Grow [2, 3] st st' → Q d st') : Ev (F__law_pick [.ref 3, .tup ds] st) Q := by
  simp only [F__law_pick, ev_run, evs_nil, evs_seq, evs_ret, evs_retN, evs_expr, evs_if, evs_set, evs_par2, evs_par3, evs_sub, evs_match, evs_mnil, evs_mcons, evs_for, ev_c, ev_v, ev_op, ev_un, ev_val, ev_bl, ev_tnot, ev_tand, ev_tor, ev_not, ev_and, ev_or, ev_if, ev_chain, ev_nil, ev_cons, ev_b, ev_call, ev_callK, ev_none, ev_some, ev_sl, ev_mt, ev_knil, ev_kcons, ev_dic, ev_iseq, ev_lc, ev_yes, ev_range1, ev_enum, ev_ok, ev_okX, List.map_cons, List.map_nil, List.length_cons, List.length_nil, List.replicate, List.cons_append, List.nil_append, List.getElem?_cons_zero, List.getElem?_cons_succ, List.set_cons_zero, List.set_cons_succ]
  rw [o_lenT]
  have hl : 0 < ds.length := List.length_pos_iff.mpr h0
  refine draw_ok h hk (by omega) (by omega) fun r st' r0 r1 dk g => ?_
  obtain ⟨d, e1, e2⟩ := atI_ofNat (ds := ds) r0 (by omega)
  rw [o_tup e1]
  exact q d st' (List.mem_of_getElem? e2) dk g
theorem pick_lst {st : Store} {k l : Nat} {ds : List D} {Q : D → Store → Prop} (h : Deck st k) (hk : k < 2 ^ 32) (hl : st[l]? = some (.lst ds)) (hn : l ∉ [2, 3]) (h0 : ds ≠ []) (hw : ds.length ≤ 1000000000) (q : ∀ d st', d ∈ ds → Deck st' (k + 1) → Grow [2, 3] st st' → Q d st') : Ev (F__law_pick [.ref 3, .ref l] st) Q := by
  simp only [F__law_pick, ev_run, evs_nil, evs_seq, evs_ret, evs_retN, evs_expr, evs_if, evs_set, evs_par2, evs_par3, evs_sub, evs_match, evs_mnil, evs_mcons, evs_for, ev_c, ev_v, ev_op, ev_un, ev_val, ev_bl, ev_tnot, ev_tand, ev_tor, ev_not, ev_and, ev_or, ev_if, ev_chain, ev_nil, ev_cons, ev_b, ev_call, ev_callK, ev_none, ev_some, ev_sl, ev_mt, ev_knil, ev_kcons, ev_dic, ev_iseq, ev_lc, ev_yes, ev_range1, ev_enum, ev_ok, ev_okX, List.map_cons, List.map_nil, List.length_cons, List.length_nil, List.replicate, List.cons_append, List.nil_append, List.getElem?_cons_zero, List.getElem?_cons_succ, List.set_cons_zero, List.set_cons_succ]
  rw [o_lenL hl]
  have hp : 0 < ds.length := List.length_pos_iff.mpr h0
  refine draw_ok h hk (by omega) (by omega) fun r st' r0 r1 dk g => ?_
  obtain ⟨d, e1, e2⟩ := atI_ofNat (ds := ds) r0 (by omega)
  rw [o_lst (g.2 _ _ hn hl) e1]
  exact q d st' (List.mem_of_getElem? e2) dk g
theorem eqF_int {st : Store} {a b : Int} : eqF (.int a) (.int b) st = some (a == b) := by
  obtain ⟨n, e⟩ := eqn_pos
  unfold eqF
  rw [e]
  rfl
theorem o_slS {st : Store} {Q : D → Store → Prop} {z : Str} {lo hi : Option Int} (h : z.length ≤ LIM) : EvO (slF (.str z) lo hi st) Q = Q (.str (L2.cutS z lo hi)) st := by simp only [slF, if_pos h]; rfl
theorem o_addS {st : Store} {Q : D → Store → Prop} {a b : Str} (h : a.length + b.length ≤ LIM) : EvO (addF (.str a) (.str b) st) Q = Q (.str (a ++ b)) st := by simp only [addF, if_pos h]; rfl
theorem o_ixS {st : Store} {Q : D → Store → Prop} {z : Str} {i : Int} {c : Nat} (h : z.length ≤ LIM) (e : L2.atI z.cps.toList i = some c) : EvO (ixF (.str z) (.int i) st) Q = Q (.str ⟨#[c]⟩) st := by simp only [ixF, if_pos h, e]; rfl
theorem o_mulS {st : Store} {Q : D → Store → Prop} {z : Str} {n : Int} (h0 : 0 ≤ n) (h1 : n ≤ 1000000) (h2 : z.length * n.toNat ≤ LIM) : EvO (mulF (.str z) (.int n) st) Q = Q (.str ⟨(List.replicate n.toNat z.cps.toList).flatten.toArray⟩) st := by
  simp only [mulF]
  rw [if_pos ⟨h0, h1, h2⟩]
  rfl
theorem o_addL {st : Store} {Q : D → Store → Prop} {l m : Nat} {a b : List D} (h1 : st[l]? = some (.lst a)) (h2 : st[m]? = some (.lst b)) (h : a.length + b.length ≤ LIM) : EvO (addF (.ref l) (.ref m) st) Q = Q (.ref st.length) (st ++ [.lst (a ++ b)]) := by
  simp only [addF, h1, h2, if_pos h]
  rfl
theorem o_slL {st : Store} {Q : D → Store → Prop} {l : Nat} {ds : List D} {lo hi : Option Int} (h : st[l]? = some (.lst ds)) : EvO (slF (.ref l) lo hi st) Q = Q (.ref st.length) (st ++ [.lst (cutD ds lo hi)]) := by
  simp only [slF, h]
  rfl
theorem Deck.app {st : Store} {k : Nat} (h : Deck st k) (x : List O) : Deck (st ++ x) k := by
  obtain ⟨c, m, a1, a2, a3⟩ := h
  exact ⟨c, m, get_app a1, get_app a2, a3⟩
theorem Deck.new {st : Store} {k : Nat} (h : Deck st k) : st.length ∉ [2, 3] := by
  obtain ⟨c, m, a1, a2, a3⟩ := h
  have := (List.getElem?_eq_some_iff.mp a1).1
  simp only [List.mem_cons, List.not_mem_nil, or_false]
  omega
theorem Deck.lt {st : Store} {k : Nat} (h : Deck st k) : ∀ l ∈ [2, 3], l < st.length := by
  obtain ⟨c, m, a1, a2, a3⟩ := h
  have := (List.getElem?_eq_some_iff.mp a1).1
  simp only [List.mem_cons, List.not_mem_nil, or_false]
  omega
end Mi
set_option Elab.async false
set_option linter.all false
set_option maxRecDepth 100000
set_option maxHeartbeats 1000000
/-! Pr: names; repr. -/
namespace Mi
open PySem
def kinds : List String := ["NoneType", "bool", "int", "str", "tuple", "list", "dict"]
def isTy (T k : String) : Bool := k == T || (k == "bool" && T == "int")
theorem kit_tab : ∀ T ∈ ["int", "bool", "str", "tuple", "list", "dict"], ∀ k ∈ kinds, L2.kitB k T = some (isTy T k) := by decide +kernel
theorem o_isi {st : Store} {Q : D → Store → Prop} {T k : String} {x : D} (h : kindD x st = some k) (hT : T ∈ ["int", "bool", "str", "tuple", "list", "dict"] := by decide) (hk : k ∈ kinds := by decide) : EvO (isiF T x st) Q = Q (.bl (isTy T k)) st := by
  unfold isiF
  rw [h, Option.bind_some, kit_tab T hT k hk]
  rfl
/-- the forms of a value -/
theorem Val.forms {L : List Nat} {st : Store} {B : Bd} {n w : Nat} {x : D} (h : Val L st B n w x) : x = .non ∨ (∃ b, x = .bl b) ∨ (∃ i, x = .int i) ∨ (∃ z, x = .str z) ∨ (∃ ds, x = .tup ds) ∨ (∃ l, x = .ref l ∧ kindD x st = some "list") ∨ (∃ l, x = .ref l ∧ kindD x st = some "dict") := by
  cases x with
  | non => exact .inl rfl
  | bl b => exact .inr (.inl ⟨b, rfl⟩)
  | int i => exact .inr (.inr (.inl ⟨i, rfl⟩))
  | str z => exact .inr (.inr (.inr (.inl ⟨z, rfl⟩)))
  | tup ds => exact .inr (.inr (.inr (.inr (.inl ⟨ds, rfl⟩))))
  | scr ns => exact h.no_scr.elim
  | exn => exact h.no_exn.elim
  | ref l =>
    obtain ⟨_, ⟨ds, e⟩ | ⟨kvs, e⟩⟩ := h.ref_inv
    · exact .inr (.inr (.inr (.inr (.inr (.inl ⟨l, rfl, by simp only [kindD, e]⟩)))))
    · exact .inr (.inr (.inr (.inr (.inr (.inr ⟨l, rfl, by simp only [kindD, e]⟩)))))
def isNum (lo hi : Int) : D → Bool
  | .int i => decide (lo ≤ i) && decide (i ≤ hi)
  | _ => false
def abc : Str := "abcdefghijklmnopqrstuvwxyz"
/-- a name -/
def isNm (z : Str) : Bool := decide (1 ≤ z.length) && decide (z.length ≤ 8) && z.cps.toList.all fun c => decide (c ∈ abc.cps.toList)
def isName : D → Bool
  | .str z => isNm z
  | _ => false
/-- only new places -/
def App (st st' : Store) : Prop := ∃ x, st' = st ++ x
theorem App.refl {st : Store} : App st st := ⟨[], by simp⟩
theorem App.one {st : Store} (o : O) : App st (st ++ [o]) := ⟨_, rfl⟩
theorem App.trans {a b c : Store} (h : App a b) (h' : App b c) : App a c := by
  obtain ⟨x, rfl⟩ := h
  obtain ⟨y, rfl⟩ := h'
  exact ⟨x ++ y, by rw [List.append_assoc]⟩
theorem App.grow {L : List Nat} {a b : Store} (h : App a b) : Grow L a b := by
  obtain ⟨x, rfl⟩ := h
  exact Grow.app x
theorem App.deck {a b : Store} {k : Nat} (h : App a b) (d : Deck a k) : Deck b k := by
  obtain ⟨x, rfl⟩ := h
  exact d.app x
theorem o_all {st : Store} {Q : D → Store → Prop} {l : Nat} {bs : List Bool} (h : st[l]? = some (.lst (bs.map .bl))) : EvO (allF [.ref l] st) Q = Q (.bl (bs.all id)) st := by
  simp only [allF, h, blsOf_map]
  rfl
theorem strIn_one {c : Nat} {b : Str} : strIn ⟨#[c]⟩ b = decide (c ∈ b.cps.toList) := by
  unfold strIn
  rw [if_pos (show (⟨#[c]⟩ : Str).length = 1 from rfl)]
  rfl
theorem is_name_ok {L : List Nat} {st : Store} {B : Bd} {n w : Nat} {x : D} {Q : D → Store → Prop} (h : Val L st B n w x) (hw : w ≤ 1000000) (q : ∀ st', App st st' → Q (.bl (isName x)) st') : Ev (F_is_name [x] st) Q := by
  simp only [F_is_name, g_LETTERS, g_MOST_LETTERS, ev_run, evs_nil, evs_seq, evs_ret, evs_retN, evs_expr, evs_if, evs_set, evs_par2, evs_par3, evs_sub, evs_match, evs_mnil, evs_mcons, evs_for, ev_c, ev_v, ev_op, ev_un, ev_val, ev_bl, ev_tnot, ev_tand, ev_tor, ev_not, ev_and, ev_or, ev_if, ev_chain, ev_nil, ev_cons, ev_b, ev_call, ev_callK, ev_none, ev_some, ev_sl, ev_mt, ev_knil, ev_kcons, ev_dic, ev_iseq, ev_lc, ev_yes, ev_range1, ev_enum, ev_ok, ev_okX, List.map_cons, List.map_nil, List.length_cons, List.length_nil, List.replicate, List.cons_append, List.nil_append, List.getElem?_cons_zero, List.getElem?_cons_succ, List.set_cons_zero, List.set_cons_succ]
  rcases h.forms with rfl | ⟨b, rfl⟩ | ⟨i, rfl⟩ | ⟨z, rfl⟩ | ⟨ds, rfl⟩ | ⟨l, rfl, e⟩ | ⟨l, rfl, e⟩
  · rw [o_isi (k := "NoneType") rfl, ev_bl, if_pos (by decide), if_pos True.intro]; exact q _ App.refl
  · rw [o_isi (k := "bool") rfl, ev_bl, if_pos (by decide), if_pos True.intro]; exact q _ App.refl
  · rw [o_isi (k := "int") rfl, ev_bl, if_pos (by decide), if_pos True.intro]; exact q _ App.refl
  · have hl := h.str_inv.2
    rw [o_isi (k := "str") rfl, ev_bl, if_neg (by decide), o_lenS (by show z.length ≤ 16777216; omega), o_cmp, ev_bl]
    by_cases c1 : (1 : Int) ≤ (z.length : Int)
    · rw [if_pos (decide_eq_true c1), o_cmp, ev_bl]
      by_cases c2 : (z.length : Int) ≤ 8
      · rw [decide_eq_true c2, if_neg (by decide)]
        dsimp only [itOf]
        first | rw [ev_ok] | rw [ev_okX]
        dsimp only
        refine ev_compP (fun _ => true) (fun d => match d with | .str y => .bl (strIn y abc) | d => d) trivial (fun d hd => ?_) ?_
        · obtain ⟨c, _, rfl⟩ := List.mem_map.mp hd
          exact ⟨_, rfl, rfl, fun _ => rfl⟩
        · rw [List.filter_eq_self.mpr (fun _ _ => rfl), List.map_map]
          have e : List.map ((fun d => match d with | D.str y => D.bl (strIn y abc) | d => d) ∘ fun c => D.str ⟨#[c]⟩) z.cps.toList = (z.cps.toList.map fun c => decide (c ∈ abc.cps.toList)).map D.bl := by
            rw [List.map_map]
            exact List.map_congr_left fun c _ => by show D.bl (strIn ⟨#[c]⟩ abc) = _; rw [strIn_one]; rfl
          have e8 : z.cps.toList.length ≤ 16777216 := by
            have : z.cps.toList.length = z.length := rfl
            omega
          rw [e, o_mkLst (by rw [List.length_map, List.length_map]; exact e8), o_all get_new]
          have r := q _ (App.one (O.lst ((z.cps.toList.map fun c => decide (c ∈ abc.cps.toList)).map D.bl)))
          have en : isName (.str z) = (z.cps.toList.map fun c => decide (c ∈ abc.cps.toList)).all id := by
            simp only [isName, isNm]
            rw [decide_eq_true (by omega), decide_eq_true (by omega), List.all_map]
            rfl
          rw [en] at r
          exact r
      · rw [decide_eq_false c2, if_pos (by decide)]
        have en : isName (.str z) = false := by
          simp only [isName, isNm]
          rw [decide_eq_false (by omega : ¬ z.length ≤ 8), Bool.and_false, Bool.false_and]
        have r := q _ App.refl
        rw [en] at r
        exact r
    · rw [if_neg (by simpa using c1), if_pos (by decide)]
      have en : isName (.str z) = false := by
        simp only [isName, isNm]
        rw [decide_eq_false (by omega : ¬ 1 ≤ z.length), Bool.false_and, Bool.false_and]
      have r := q _ App.refl
      rw [en] at r
      exact r
  · rw [o_isi (k := "tuple") rfl, ev_bl, if_pos (by decide), if_pos True.intro]; exact q _ App.refl
  · rw [o_isi e, ev_bl, if_pos (by decide), if_pos True.intro]; exact q _ App.refl
  · rw [o_isi e, ev_bl, if_pos (by decide), if_pos True.intro]; exact q _ App.refl
theorem eqF_str {st : Store} {a b : Str} : eqF (.str a) (.str b) st = some (a == b) := by
  obtain ⟨n, e⟩ := eqn_pos
  unfold eqF
  rw [e]
  rfl
theorem str_nil {z : Str} (h : z.length = 0) : z = "" := by
  obtain ⟨c⟩ := z
  have : c = #[] := Array.eq_empty_of_size_eq_zero h
  subst this
  rfl
theorem neF_int {st : Store} {a b : Int} : neF (.int a) (.int b) st = some (!(a == b)) := by
  have e := eqF_int (st := st) (a := a) (b := b)
  unfold eqF at e
  unfold neF
  rw [e]
  rfl
theorem three {ds : List D} (h : ds.length = 3) : ∃ a b c, ds = [a, b, c] := by
  rcases ds with _ | ⟨a, _ | ⟨b, _ | ⟨c, _ | ⟨d, r⟩⟩⟩⟩
  · cases h
  · cases h
  · cases h
  · exact ⟨a, b, c, rfl⟩
  · simp at h
theorem ne3 {k : Nat} (h : k ≠ 3) : (!((k : Int) == 3)) = true := by
  have : ((k : Int) == 3) = false := by
    rw [beq_eq_false_iff_ne]
    omega
  rw [this]
  rfl
theorem eq3 {k : Nat} (h : k = 3) : ¬ (!((k : Int) == 3)) = true := by
  subst h
  decide
theorem App.get {a b : Store} (h : App a b) {l : Nat} {o : O} (e : a[l]? = some o) : b[l]? = some o := by
  obtain ⟨x, rfl⟩ := h
  exact get_app e
theorem App.len {a b : Store} (h : App a b) : a.length ≤ b.length := by
  obtain ⟨x, rfl⟩ := h
  rw [List.length_append]; omega
theorem App.put {a b : Store} (h : App a b) {l : Nat} {o : O} (e : a.length ≤ l) : App a (b.set l o) := by
  obtain ⟨x, rfl⟩ := h
  exact ⟨x.set (l - a.length) o, by rw [List.set_append_right _ _ e]⟩
theorem repr_t {L : List Nat} {st : Store} {n : Nat} {d : D} {t : PyData} {Q : D → Store → Prop} (e : datM n (look L st) d = some t) (hn : n ≤ 150) (l : leafB topB t) (hw : t.weight ≤ 250000) (q : Q (.str t.shown) st) : EvO (reprF [d] st) Q := by
  have sh := leaf_short t l
  have hl : t.shown.length ≤ LIM := by
    have := PyData.shown_le 60 (by decide) t sh.1
    have h2 : (60 + 2) * t.weight ≤ (60 + 2) * 250000 := Nat.mul_le_mul_left _ (by omega)
    show t.shown.length ≤ 16777216
    omega
  have e2 : datN 150 st d = some t := datN_of (datM_mono hn (fun _ _ h => h) e)
  simp only [reprF, e2, Option.bind_some]
  rw [if_pos ⟨sh.2, hl⟩]
  exact q
theorem datL_bools {f : D → Option PyData} (h : ∀ b, f (.bl b) = some (.bool b)) : ∀ bs : List Bool, datL f (bs.map .bl) = some (bs.map .bool)
  | [] => rfl
  | b :: bs => by simp only [List.map_cons, datL, h, datL_bools h bs]; rfl
theorem bools_dat {st : Store} {l m r : Nat} {bs : List Bool} (h1 : st[l]? = some (.lst (bs.map .bl))) (h2 : st[m]? = some (.lst (bs.map .bl))) (h3 : st[r]? = some (.lst [.ref l, .ref m])) : datM 3 (look [] st) (.ref r) = some (.list [.list (bs.map .bool), .list (bs.map .bool)]) := by
  have hb : ∀ b, datM 1 (look [] st) (.bl b) = some (.bool b) := fun _ => rfl
  have k : ∀ i, look [] st i = st[i]? := fun i => by unfold look; rw [if_neg (by simp)]
  have a1 : datM 2 (look [] st) (.ref l) = some (.list (bs.map .bool)) := by
    unfold datM
    simp only [k, h1, datL_bools hb]
    rfl
  have a2 : datM 2 (look [] st) (.ref m) = some (.list (bs.map .bool)) := by
    unfold datM
    simp only [k, h2, datL_bools hb]
    rfl
  unfold datM
  simp only [k, h3, datL, a1, a2]
  rfl
theorem bools_leaf : ∀ bs : List Bool, leafBs topB (bs.map .bool) ∧ PyData.weightAll (bs.map .bool) = bs.length
  | [] => ⟨trivial, rfl⟩
  | b :: bs => ⟨⟨trivial, (bools_leaf bs).1⟩, by
    rw [List.map_cons, List.length_cons]
    simp only [PyData.weightAll, PyData.weight, (bools_leaf bs).2]
    omega⟩
theorem repr_bools {st : Store} {l m r : Nat} {bs : List Bool} {Q : D → Store → Prop} (hb : bs.length ≤ 100) (h1 : st[l]? = some (.lst (bs.map .bl))) (h2 : st[m]? = some (.lst (bs.map .bl))) (h3 : st[r]? = some (.lst [.ref l, .ref m])) (q : Q (.str (PyData.list [.list (bs.map .bool), .list (bs.map .bool)]).shown) st) : EvO (reprF [.ref r] st) Q := by
  have lf := bools_leaf bs
  refine repr_t (bools_dat h1 h2 h3) (by decide) ⟨lf.1, lf.1, trivial⟩ ?_ q
  simp only [PyData.weight, PyData.weightAll, lf.2]
  omega
end Mi
set_option Elab.async false
set_option linter.all false
set_option maxRecDepth 100000
set_option maxHeartbeats 1000000
/-! Pb: records as data, their texts. -/
namespace Mi
open PySem
/-! records as data, their texts -/
abbrev Ch := List Nat
def jn : List Ch → Ch
  | [] => []
  | [x] => x
  | x :: y :: r => x ++ 32 :: jn (y :: r)
def wP (f : D → Ch) : D → Ch
  | .tup qs => 91 :: (jn (qs.map f) ++ [93])
  | _ => []
def wR : Nat → D → Ch
  | 0, _ => []
  | h + 1, x => match x with
    | .tup [.str nm, .int v, .tup ps] => nm.cps.toList ++ 46 :: (48 + v.toNat) :: (ps.map (wP (wR h))).flatten
    | _ => []
def OkP (f : D → Prop) (p : D) : Prop := ∃ qs, p = .tup qs ∧ qs.length ≤ 60 ∧ ∀ q ∈ qs, f q
def OkR : Nat → D → Prop
  | 0, _ => False
  | h + 1, x => ∃ nm v ps, x = .tup [.str nm, .int v, .tup ps] ∧ isNm nm = true ∧ 0 ≤ v ∧ v ≤ 3 ∧ ps.length ≤ 6 ∧ ∀ p ∈ ps, OkP (OkR h) p
def cP (f : D → Nat) : D → Nat
  | .tup qs => (qs.map f).sum
  | _ => 0
def cR : Nat → D → Nat
  | 0, _ => 0
  | h + 1, x => match x with
    | .tup [_, _, .tup ps] => 1 + (ps.map (cP (cR h))).sum
    | _ => 0
theorem wR_s {h : Nat} {nm : Str} {v : Int} {ps : List D} : wR (h + 1) (.tup [.str nm, .int v, .tup ps]) = nm.cps.toList ++ 46 :: (48 + v.toNat) :: (ps.map (wP (wR h))).flatten := rfl
theorem cR_s {h : Nat} {a b : D} {ps : List D} : cR (h + 1) (.tup [a, b, .tup ps]) = 1 + (ps.map (cP (cR h))).sum := rfl
theorem nm_len {nm : Str} (h : isNm nm = true) : 1 ≤ nm.cps.toList.length ∧ nm.cps.toList.length ≤ 8 ∧ ∀ c ∈ nm.cps.toList, 97 ≤ c ∧ c ≤ 122 := by
  simp only [isNm, Bool.and_eq_true, decide_eq_true_eq, List.all_eq_true] at h
  refine ⟨h.1.1, h.1.2, fun c hc => ?_⟩
  have ha : ∀ c ∈ abc.cps.toList, 97 ≤ c ∧ c ≤ 122 := by decide +kernel
  exact ha c (h.2 c hc)
theorem jn_len : ∀ xs : List Ch, (jn xs).length ≤ (xs.map fun x => x.length + 1).sum
  | [] => Nat.le_refl _
  | [x] => by simp [jn]
  | x :: y :: r => by
    have := jn_len (y :: r)
    simp only [jn, List.length_append, List.length_cons, List.map_cons, List.sum_cons] at this ⊢
    omega
theorem sum_le {α : Type} {f g : α → Nat} : ∀ {xs : List α}, (∀ x ∈ xs, f x ≤ g x) → (xs.map f).sum ≤ (xs.map g).sum
  | [], _ => Nat.le_refl _
  | x :: xs, h => by
    have := sum_le (fun y hy => h y (List.mem_cons_of_mem _ hy))
    have := h x List.mem_cons_self
    simp only [List.map_cons, List.sum_cons]
    omega
theorem sum_mul {α : Type} (k : Nat) (f : α → Nat) : ∀ xs : List α, (xs.map fun x => k * f x).sum = k * (xs.map f).sum
  | [] => rfl
  | x :: xs => by simp only [List.map_cons, List.sum_cons, sum_mul k f xs, Nat.mul_add]
theorem sum_add1 {α : Type} (k : Nat) (f : α → Nat) : ∀ xs : List α, (xs.map fun x => k + f x).sum = k * xs.length + (xs.map f).sum
  | [] => rfl
  | x :: xs => by simp only [List.map_cons, List.sum_cons, sum_add1 k f xs, List.length_cons, Nat.mul_add]; omega
theorem flat_len {α : Type} (f : α → Ch) : ∀ xs : List α, (xs.map f).flatten.length = (xs.map fun x => (f x).length).sum
  | [] => rfl
  | x :: xs => by simp only [List.map_cons, List.flatten_cons, List.length_append, List.sum_cons, flat_len f xs]
theorem len_R : ∀ (h : Nat) (x : D), OkR h x → (wR h x).length + 1 ≤ 24 * cR h x
  | 0, _, ok => ok.elim
  | h + 1, x, ok => by
    obtain ⟨nm, v, ps, rfl, hn, v0, v3, hl, hp⟩ := ok
    have nl := (nm_len hn).2.1
    rw [wR_s, cR_s, List.length_append, List.length_cons, List.length_cons, flat_len]
    have e : (ps.map fun x => (wP (wR h) x).length).sum ≤ (ps.map fun x => 2 + 24 * cP (cR h) x).sum := sum_le fun p hpm => by
      obtain ⟨qs, rfl, _, hq⟩ := hp p hpm
      have a := jn_len (qs.map (wR h))
      rw [List.map_map] at a
      have b : (qs.map ((fun x => x.length + 1) ∘ wR h)).sum ≤ (qs.map fun q => 24 * cR h q).sum := sum_le fun q hqm => len_R h q (hq q hqm)
      rw [sum_mul] at b
      simp only [wP, cP, List.length_cons, List.length_append, List.length_nil]
      omega
    rw [sum_add1, sum_mul] at e
    omega
/-! as data of the library -/
def pP (f : D → PyData) : D → PyData
  | .tup qs => .tuple (qs.map f)
  | _ => .none
def pR : Nat → D → PyData
  | 0, _ => .none
  | h + 1, x => match x with
    | .tup [.str nm, .int v, .tup ps] => .tuple [.str nm, .int v, .tuple (ps.map (pP (pR h)))]
    | _ => .none
theorem datL_map {f : D → Option PyData} {g : D → PyData} : ∀ {ds : List D}, (∀ d ∈ ds, f d = some (g d)) → datL f ds = some (ds.map g)
  | [], _ => rfl
  | d :: ds, h => by
    simp only [datL, h d List.mem_cons_self, datL_map (fun x hx => h x (List.mem_cons_of_mem _ hx)), List.map_cons]
    rfl
theorem dat_R {m : Nat → Option O} : ∀ (h n : Nat) (x : D), 3 * h ≤ n → OkR h x → datM n m x = some (pR h x)
  | 0, _, _, _, ok => ok.elim
  | h + 1, n, x, hn, ok => by
    obtain ⟨nm, v, ps, rfl, _, _, _, _, hp⟩ := ok
    obtain ⟨n, rfl⟩ : ∃ j, n = j + 3 := ⟨n - 3, by omega⟩
    have e : datL (datM (n + 1) m) ps = some (ps.map (pP (pR h))) := datL_map fun p hpm => by
      obtain ⟨qs, rfl, _, hq⟩ := hp p hpm
      simp only [datM]
      rw [datL_map fun q hqm => dat_R h n q (by omega) (hq q hqm)]
      rfl
    simp only [datM, datL, pR]
    simp only [datM] at e
    rw [e]
    rfl
theorem weight_map {f : D → PyData} {g : D → Nat} : ∀ {ds : List D}, (∀ d ∈ ds, (f d).weight + 1 ≤ g d) → PyData.weightAll (ds.map f) ≤ (ds.map g).sum
  | [], _ => Nat.le_refl _
  | d :: ds, h => by
    have := weight_map (fun x hx => h x (List.mem_cons_of_mem _ hx))
    have := h d List.mem_cons_self
    simp only [List.map_cons, List.sum_cons, PyData.weightAll]
    omega
theorem leafs_map {B : Bd} {f : D → PyData} : ∀ {ds : List D}, (∀ d ∈ ds, leafB B (f d)) → leafBs B (ds.map f)
  | [], _ => trivial
  | d :: ds, h => ⟨h d List.mem_cons_self, leafs_map fun x hx => h x (List.mem_cons_of_mem _ hx)⟩
theorem weight_R : ∀ (h : Nat) (x : D), OkR h x → (pR h x).weight + 1 ≤ 40 * cR h x ∧ leafB topB (pR h x)
  | 0, _, ok => ok.elim
  | h + 1, x, ok => by
    obtain ⟨nm, v, ps, rfl, hn, v0, v3, hl, hp⟩ := ok
    have nl := nm_len hn
    have nl2 : nm.length ≤ 8 := nl.2.1
    have nl3 : nm.cps.size ≤ 8 := nl.2.1
    constructor
    · have e : PyData.weightAll (ps.map (pP (pR h))) ≤ (ps.map fun p => 1 + 40 * cP (cR h) p).sum := weight_map fun p hpm => by
        obtain ⟨qs, rfl, _, hq⟩ := hp p hpm
        have := weight_map (f := pR h) (g := fun q => 40 * cR h q) fun q hqm => (weight_R h q (hq q hqm)).1
        rw [sum_mul] at this
        simp only [pP, cP, PyData.weight]
        omega
      rw [sum_add1, sum_mul] at e
      have vw : (PyData.int v).weight ≤ 3 := by
        have : v = 0 ∨ v = 1 ∨ v = 2 ∨ v = 3 := by omega
        rcases this with rfl | rfl | rfl | rfl <;> decide +kernel
      rw [cR_s]
      simp only [pR, PyData.weight, PyData.weightAll] at vw ⊢
      omega
    · refine ⟨⟨fun c hc => by have := nl.2.2 c hc; omega, Nat.le_trans nl2 (by decide)⟩, ?_, ?_, trivial⟩
      · show v.natAbs < 10 ^ 50
        omega
      · exact leafs_map fun p hpm => by
          obtain ⟨qs, rfl, _, hq⟩ := hp p hpm
          exact leafs_map fun q hqm => (weight_R h q (hq q hqm)).2
end Mi
set_option Elab.async false
set_option linter.all false
set_option maxRecDepth 100000
set_option maxHeartbeats 1000000
/-! Pc: repr tells records. -/
namespace Mi
open PySem
/-! repr of records: texts, and that they tell them -/
def jc : List Ch → Ch
  | [] => []
  | [x] => x
  | x :: y :: r => x ++ 44 :: 32 :: jc (y :: r)
def tS (xs : List Ch) : Ch := 40 :: (jc xs ++ (if xs.length = 1 then [44, 41] else [41]))
def sP (f : D → Ch) : D → Ch
  | .tup qs => tS (qs.map f)
  | _ => []
def sR : Nat → D → Ch
  | 0, _ => []
  | h + 1, x => match x with
    | .tup [.str nm, .int v, .tup ps] => 40 :: 39 :: (nm.cps.toList ++ 39 :: 44 :: 32 :: (48 + v.toNat) :: 44 :: 32 :: (tS (ps.map (sP (sR h))) ++ [41]))
    | _ => []
def UD {α : Type} (P : α → Prop) (f : α → Ch) : Prop := ∀ x y u u', P x → P y → f x ++ u = f y ++ u' → x = y ∧ u = u'
def F40 {α : Type} (P : α → Prop) (f : α → Ch) : Prop := ∀ x, P x → ∃ r, f x = 40 :: r
section
variable {α : Type} {P : α → Prop} {f : α → Ch}
theorem jc_cons (x : α) (xs : List α) : jc ((x :: xs).map f) = f x ++ (match xs with | [] => [] | y :: r => 44 :: 32 :: jc ((y :: r).map f)) := by
  cases xs with
  | nil => simp [jc]
  | cons y r => simp [jc]
theorem rest_ud (hu : UD P f) : ∀ (xs ys : List α) (u u' : Ch), xs ≠ [] → ys ≠ [] → (∀ x ∈ xs, P x) → (∀ y ∈ ys, P y) → jc (xs.map f) ++ 41 :: u = jc (ys.map f) ++ 41 :: u' → xs = ys ∧ u = u'
  | [], _, _, _, h, _, _, _, _ => absurd rfl h
  | _ :: _, [], _, _, _, h, _, _, _ => absurd rfl h
  | x :: xs, y :: ys, u, u', _, _, hx, hy, e => by
    rw [jc_cons, jc_cons, List.append_assoc, List.append_assoc] at e
    obtain ⟨rfl, e'⟩ := hu _ _ _ _ (hx x List.mem_cons_self) (hy y List.mem_cons_self) e
    clear e
    have e := e'
    cases xs with
    | nil =>
      cases ys with
      | nil =>
        simp only [List.nil_append, List.cons.injEq, true_and] at e
        exact ⟨rfl, e⟩
      | cons y2 ys => simp at e
    | cons x2 xs =>
      cases ys with
      | nil => simp at e
      | cons y2 ys =>
        simp only [List.cons_append, List.cons.injEq, true_and] at e
        obtain ⟨e1, e2⟩ := rest_ud hu (x2 :: xs) (y2 :: ys) u u' (by simp) (by simp) (fun z hz => hx z (List.mem_cons_of_mem _ hz)) (fun z hz => hy z (List.mem_cons_of_mem _ hz)) e
        exact ⟨by rw [e1], e2⟩
theorem tup_ud (hu : UD P f) (h4 : F40 P f) : UD (fun xs : List α => ∀ x ∈ xs, P x) (fun xs => tS (xs.map f)) := by
  intro xs ys u u' hx hy e
  simp only [tS, List.cons_append, List.cons.injEq, true_and, List.length_map, List.append_assoc] at e
  rcases xs with _ | ⟨x, _ | ⟨x2, xs⟩⟩
  · rcases ys with _ | ⟨y, ys⟩
    · simp [jc] at e
      exact ⟨rfl, e⟩
    · obtain ⟨r, hr⟩ := h4 y (hy y List.mem_cons_self)
      rw [jc_cons, hr] at e
      simp [jc] at e
  · rcases ys with _ | ⟨y, _ | ⟨y2, ys⟩⟩
    · obtain ⟨r, hr⟩ := h4 x (hx x List.mem_cons_self)
      rw [jc_cons, hr] at e
      simp [jc] at e
    · rw [jc_cons, jc_cons] at e
      simp only [List.append_nil, List.length_cons, List.length_nil] at e
      obtain ⟨rfl, e'⟩ := hu _ _ _ _ (hx x List.mem_cons_self) (hy y List.mem_cons_self) e
      simp at e'
      exact ⟨rfl, e'⟩
    · rw [jc_cons, jc_cons] at e
      simp only [List.append_nil, List.length_cons, List.length_nil, List.append_assoc] at e
      obtain ⟨rfl, e'⟩ := hu _ _ _ _ (hx x List.mem_cons_self) (hy y List.mem_cons_self) e
      simp at e'
  · rcases ys with _ | ⟨y, _ | ⟨y2, ys⟩⟩
    · obtain ⟨r, hr⟩ := h4 x (hx x List.mem_cons_self)
      rw [jc_cons, hr] at e
      simp [jc] at e
    · rw [jc_cons, jc_cons] at e
      simp only [List.append_nil, List.length_cons, List.length_nil, List.append_assoc] at e
      obtain ⟨rfl, e'⟩ := hu _ _ _ _ (hx x List.mem_cons_self) (hy y List.mem_cons_self) e
      simp at e'
    · rw [if_neg (by simp), if_neg (by simp)] at e
      exact rest_ud hu (x :: x2 :: xs) (y :: y2 :: ys) u u' (by simp) (by simp) hx hy e
end
theorem split39 : ∀ {a b u u' : Ch}, (∀ c ∈ a, c ≠ 39) → (∀ c ∈ b, c ≠ 39) → a ++ 39 :: u = b ++ 39 :: u' → a = b ∧ u = u'
  | [], [], u, u', _, _, e => by simpa using e
  | [], c :: b, u, u', _, hb, e => by
    simp only [List.nil_append, List.cons_append, List.cons.injEq] at e
    exact absurd e.1.symm (hb c List.mem_cons_self)
  | c :: a, [], u, u', ha, _, e => by
    simp only [List.nil_append, List.cons_append, List.cons.injEq] at e
    exact absurd e.1 (ha c List.mem_cons_self)
  | c :: a, d :: b, u, u', ha, hb, e => by
    simp only [List.cons_append, List.cons.injEq] at e
    obtain ⟨e1, e2⟩ := split39 (fun x hx => ha x (List.mem_cons_of_mem _ hx)) (fun x hx => hb x (List.mem_cons_of_mem _ hx)) e.2
    exact ⟨by rw [e.1, e1], e2⟩
theorem sR_40 : ∀ h, F40 (OkR h) (sR h)
  | 0, _, ok => ok.elim
  | h + 1, x, ok => by
    obtain ⟨nm, v, ps, rfl, _⟩ := ok
    exact ⟨_, rfl⟩
theorem str_ext {a b : Str} (h : a.cps.toList = b.cps.toList) : a = b := by
  obtain ⟨⟨a⟩⟩ := a
  obtain ⟨⟨b⟩⟩ := b
  have : a = b := h
  rw [this]
theorem sP_ud {f : D → Ch} {P : D → Prop} (hu : UD P f) (h4 : F40 P f) : UD (OkP P) (sP f) := by
  intro x y u u' hx hy e
  obtain ⟨qs, rfl, _, hq⟩ := hx
  obtain ⟨qs', rfl, _, hq'⟩ := hy
  obtain ⟨rfl, e'⟩ := tup_ud hu h4 qs qs' u u' hq hq' e
  exact ⟨rfl, e'⟩
theorem sP_40 {f : D → Ch} {P : D → Prop} : F40 (OkP P) (sP f) := by
  rintro x ⟨qs, rfl, _⟩
  exact ⟨_, rfl⟩
theorem sR_ud : ∀ h, UD (OkR h) (sR h)
  | 0, _, _, _, _, ok, _, _ => ok.elim
  | h + 1, x, y, u, u', okx, oky, e => by
    obtain ⟨nm, v, ps, rfl, hn, v0, v3, _, hp⟩ := okx
    obtain ⟨nm', v', ps', rfl, hn', v0', v3', _, hp'⟩ := oky
    have a := (nm_len hn).2.2
    have a' := (nm_len hn').2.2
    simp only [sR, List.cons_append, List.cons.injEq, true_and, List.append_assoc] at e
    obtain ⟨e1, e⟩ := split39 (fun c hc => by have := a c hc; omega) (fun c hc => by have := a' c hc; omega) e
    simp only [List.cons.injEq, true_and] at e
    obtain ⟨e2, e⟩ := e
    obtain ⟨e3, e⟩ := tup_ud (sP_ud (sR_ud h) (sR_40 h)) sP_40 ps ps' _ _ hp hp' e
    simp only [List.nil_append, List.cons.injEq, true_and] at e
    have ev : v = v' := by omega
    rw [str_ext e1, ev, e3]
    exact ⟨rfl, e⟩
/-! the library's text -/
theorem join_list (sep : Str) : ∀ xs : List Str, (Str.join sep xs).cps.toList = (match xs.map (fun x => x.cps.toList) with | [] => [] | x :: r => x ++ (r.map fun y => sep.cps.toList ++ y).flatten)
  | [] => rfl
  | [x] => by simp [Str.join]
  | x :: y :: r => by
    have ih := join_list sep (y :: r)
    show (x ++ sep ++ Str.join sep (y :: r)).cps.toList = _
    simp only [List.map_cons] at ih ⊢
    have e : (x ++ sep ++ Str.join sep (y :: r)).cps.toList = x.cps.toList ++ sep.cps.toList ++ (Str.join sep (y :: r)).cps.toList := by
      show (x.cps ++ sep.cps ++ (Str.join sep (y :: r)).cps).toList = _
      simp
    rw [e, ih]
    simp
theorem jc_eq : ∀ xs : List Ch, jc xs = (match xs with | [] => [] | x :: r => x ++ (r.map fun y => [44, 32] ++ y).flatten)
  | [] => rfl
  | [x] => by simp [jc]
  | x :: y :: r => by
    rw [jc, jc_eq (y :: r)]
    simp
theorem jn_eq : ∀ xs : List Ch, jn xs = (match xs with | [] => [] | x :: r => x ++ (r.map fun y => [32] ++ y).flatten)
  | [] => rfl
  | [x] => by simp [jn]
  | x :: y :: r => by
    rw [jn, jn_eq (y :: r)]
    simp
theorem shown_tup (xs : List PyData) : (PyData.tuple xs).shown.cps.toList = tS ((PyData.shownAll xs).map fun x => x.cps.toList) := by
  rw [PyData.shown_tuple]
  have l : (PyData.shownAll xs).length = xs.length := by
    induction xs with
    | nil => rfl
    | cons x xs ih => simp only [PyData.shownAll, List.length_cons, ih]
  have e : ∀ a b c : Str, (a ++ b ++ c).cps.toList = a.cps.toList ++ (b.cps.toList ++ c.cps.toList) := fun a b c => by
    show (a.cps ++ b.cps ++ c.cps).toList = _
    simp
  rw [e, join_list]
  unfold tS
  rw [jc_eq, List.length_map, l]
  have e44 : (Str.ofString ", ").cps.toList = [44, 32] := by decide +kernel
  have e40 : (Str.ofString "(").cps.toList = [40] := by decide +kernel
  rw [e44, e40]
  by_cases h1 : xs.length = 1
  · rw [if_pos h1, if_pos (by simpa using h1)]
    have : (Str.ofString ",)").cps.toList = [44, 41] := by decide +kernel
    rw [this]
    rfl
  · rw [if_neg h1, if_neg (by simpa using h1)]
    have : (Str.ofString ")").cps.toList = [41] := by decide +kernel
    rw [this]
    rfl
theorem shownAll_map {f : D → PyData} : ∀ ds : List D, PyData.shownAll (ds.map f) = ds.map fun d => (f d).shown
  | [] => rfl
  | d :: ds => by simp only [List.map_cons, PyData.shownAll, shownAll_map ds]
theorem char_nm : ∀ c < 123, 97 ≤ c → Builtin.Str.reprChar 39 c = [c] := by decide +kernel
theorem fold_nm : ∀ (l : List Nat) (acc : Array Nat), (∀ c ∈ l, 97 ≤ c ∧ c ≤ 122) → l.foldl (fun out c => out ++ (Builtin.Str.reprChar 39 c).toArray) acc = acc ++ l.toArray
  | [], acc, _ => by simp
  | c :: l, acc, h => by
    have hc := h c List.mem_cons_self
    rw [List.foldl_cons, fold_nm l _ fun x hx => h x (List.mem_cons_of_mem _ hx), char_nm c (by omega) hc.1]
    simp
theorem shown_nm {nm : Str} (h : isNm nm = true) : (PyData.str nm).shown.cps.toList = 39 :: (nm.cps.toList ++ [39]) := by
  have hc := (nm_len h).2.2
  rw [PyData.shown_str]
  obtain ⟨⟨l⟩⟩ := nm
  have hc : ∀ c ∈ l, 97 ≤ c ∧ c ≤ 122 := hc
  have q : reprQuote ⟨⟨l⟩⟩ = 39 := by
    unfold reprQuote
    have : (Array.mk l).contains 39 = false := by
      rw [Bool.eq_false_iff]
      intro q
      have : 39 ∈ l := by simpa using q
      have := hc 39 this
      omega
    show (if (Array.mk l).contains 39 && !(Array.mk l).contains 34 then 34 else 39) = 39
    rw [this]
    rfl
  unfold reprText
  rw [q]
  show ((Array.foldl (fun out c => out ++ (Builtin.Str.reprChar 39 c).toArray) #[39] (Array.mk l)).push 39).toList = _
  have e : Array.foldl (fun out c => out ++ (Builtin.Str.reprChar 39 c).toArray) #[39] (Array.mk l) = l.foldl (fun out c => out ++ (Builtin.Str.reprChar 39 c).toArray) #[39] := by simp
  rw [e, fold_nm l _ hc]
  simp
theorem shown_dig {v : Int} (v0 : 0 ≤ v) (v3 : v ≤ 3) : (PyData.int v).shown.cps.toList = [48 + v.toNat] := by
  have : v = 0 ∨ v = 1 ∨ v = 2 ∨ v = 3 := by omega
  rcases this with rfl | rfl | rfl | rfl <;> (rw [PyData.shown_int]; decide +kernel)
theorem shown_R : ∀ (h : Nat) (x : D), OkR h x → (pR h x).shown.cps.toList = sR h x
  | 0, _, ok => ok.elim
  | h + 1, x, ok => by
    obtain ⟨nm, v, ps, rfl, hn, v0, v3, hl, hp⟩ := ok
    have e : (ps.map fun p => (pP (pR h) p).shown.cps.toList) = ps.map (sP (sR h)) := List.map_congr_left fun p hpm => by
      obtain ⟨qs, rfl, _, hq⟩ := hp p hpm
      simp only [pP, sP]
      rw [shown_tup, shownAll_map, List.map_map]
      congr 1
      exact List.map_congr_left fun q hqm => shown_R h q (hq q hqm)
    simp only [pR]
    rw [shown_tup]
    simp only [PyData.shownAll, List.map_cons, List.map_nil]
    rw [shown_nm hn, shown_dig v0 v3, shown_tup, shownAll_map, List.map_map]
    show tS [_, _, tS (ps.map fun p => (pP (pR h) p).shown.cps.toList)] = _
    rw [e]
    simp [tS, jc, sR]
/-- stories by their repr -/
theorem story_inj {h : Nat} {xs ys : List D} (hx : ∀ x ∈ xs, OkR h x) (hy : ∀ y ∈ ys, OkR h y) (e : (PyData.tuple (xs.map (pR h))).shown = (PyData.tuple (ys.map (pR h))).shown) : xs = ys := by
  have e2 := congrArg (fun z : Str => z.cps.toList) e
  simp only [shown_tup, shownAll_map, List.map_map] at e2
  have a : ∀ {zs : List D}, (∀ z ∈ zs, OkR h z) → List.map ((fun x : Str => x.cps.toList) ∘ fun d => (pR h d).shown) zs = zs.map (sR h) := fun hz => List.map_congr_left fun z hzm => shown_R h z (hz z hzm)
  rw [a hx, a hy] at e2
  exact (tup_ud (sR_ud h) (sR_40 h) xs ys [] [] hx hy (by simpa using e2)).1
end Mi
set_option Elab.async false
set_option linter.all false
set_option maxRecDepth 100000
set_option maxHeartbeats 1000000
/-! Pd: texts as lists of signs. -/
namespace Mi
open PySem
/-! texts as lists of signs -/
def tx (l : Ch) : Str := ⟨l.toArray⟩
theorem tx_len (l : Ch) : (tx l).length = l.length := by show l.toArray.size = _; simp
theorem tx_list (l : Ch) : (tx l).cps.toList = l := by show l.toArray.toList = l; simp
theorem tx_of (z : Str) : tx z.cps.toList = z := str_ext (tx_list _)
theorem tx_app (a b : Ch) : tx a ++ tx b = tx (a ++ b) := str_ext (by
  show (a.toArray ++ b.toArray).toList = _
  simp [tx])
theorem tx_inj {a b : Ch} (h : tx a = tx b) : a = b := by rw [← tx_list a, ← tx_list b, h]
theorem beq_tx {a b : Ch} : (tx a == tx b) = decide (a = b) := by
  rw [Bool.eq_iff_iff, beq_iff_eq, decide_eq_true_eq]
  exact ⟨tx_inj, fun h => by rw [h]⟩
theorem cut_tx {pre mid post : Ch} {i j : Int} (hi : i = pre.length) (hj : j = pre.length + mid.length) : L2.cutS (tx (pre ++ mid ++ post)) (some i) (some j) = tx mid := by
  subst hi
  have hj : j = ((pre.length + mid.length : Nat) : Int) := by omega
  subst hj
  refine str_ext ?_
  unfold L2.cutS
  rw [tx_len, tx_list, HT.sIx_nat, HT.sIx_nat]
  show (List.toArray _).toList = _
  rw [List.length_append, List.length_append, Nat.min_eq_left (by omega), Nat.min_eq_left (by omega), tx_list]
  simp
theorem cut1 {pre post : Ch} {i j : Int} (hi : i = pre.length) (hj : j = pre.length + 1) : L2.cutS (tx (pre ++ post)) (some i) (some j) = tx (post.take 1) := by
  cases post with
  | nil =>
    subst hi
    have hj : j = ((pre.length + 1 : Nat) : Int) := by omega
    subst hj
    refine str_ext ?_
    unfold L2.cutS
    rw [tx_len, tx_list, HT.sIx_nat, HT.sIx_nat]
    simp [tx]
  | cons c post =>
    have := cut_tx (pre := pre) (mid := [c]) (post := post) hi hj
    rw [List.append_assoc] at this
    exact this
theorem getD_tx {l : Ch} {k : Nat} : (tx l).cps.getD k 0 = (l[k]?).getD 0 := by
  show l.toArray.getD k 0 = _
  simp
theorem find_tx {pre mid post : Ch} {c : Nat} {i : Int} (hm : ∀ x ∈ mid, x ≠ c) (hi : i = pre.length) : Txt.find3 (tx (pre ++ mid ++ c :: post)) ⟨#[c]⟩ i = ((pre.length + mid.length : Nat) : Int) := by
  have hl : (tx (pre ++ mid ++ c :: post)).length = pre.length + mid.length + (post.length + 1) := by rw [tx_len]; simp; omega
  have fi : fromIndex (tx (pre ++ mid ++ c :: post)).length i = pre.length := by
    unfold fromIndex
    rw [hi, if_neg (by omega)]
    omega
  have at0 : (tx (pre ++ mid ++ c :: post)).cps.getD (pre.length + mid.length) 0 = c := by
    rw [getD_tx, List.getElem?_append_right (by simp)]
    simp
  rcases StrLaws.find3_spec (tx (pre ++ mid ++ c :: post)) c i with ⟨_, hn⟩ | ⟨k, e, hlo, hlt, hk, hn⟩
  · exact absurd at0 (hn _ (by rw [fi]; omega) (by rw [hl]; omega))
  · rw [e]
    rw [fi] at hlo
    congr 1
    rcases Nat.lt_trichotomy k (pre.length + mid.length) with h | h | h
    · exfalso
      have hk2 : (tx (pre ++ mid ++ c :: post)).cps.getD k 0 = c := by simpa using hk
      rw [getD_tx, List.getElem?_append_left (by simp; omega), List.getElem?_append_right (by omega)] at hk2
      have hlt2 : k - pre.length < mid.length := by omega
      rw [List.getElem?_eq_getElem hlt2] at hk2
      exact hm _ (List.getElem_mem hlt2) hk2
    · exact h
    · exact absurd at0 (hn _ (by rw [fi]; omega) h)
theorem join_tx (sep : Str) (xs : List Ch) : (Txt.join sep (xs.map tx)).cps.toList = (match xs with | [] => [] | x :: r => x ++ (r.map fun y => sep.cps.toList ++ y).flatten) := by
  have e : Txt.join sep (xs.map tx) = Str.join sep (xs.map tx) := eq_of_beq (PyProof.Rows.join_plain_closes sep _)
  rw [e, join_list, List.map_map]
  have : ((fun x : Str => x.cps.toList) ∘ tx) = id := funext fun x => tx_list x
  rw [this, List.map_id]
  cases xs <;> rfl
theorem join_sp (xs : List Ch) : Txt.join " " (xs.map tx) = tx (jn xs) := str_ext (by
  rw [join_tx, tx_list, jn_eq]
  rfl)
theorem join_0 (xs : List Ch) : Txt.join "" (xs.map tx) = tx xs.flatten := str_ext (by
  rw [join_tx, tx_list]
  have e0 : (Str.ofString "").cps.toList = [] := by decide +kernel
  rw [e0]
  cases xs with
  | nil => rfl
  | cons x r => simp)
theorem strsOf_tx : ∀ xs : List Ch, strsOf (xs.map fun x => D.str (tx x)) = some (xs.map tx)
  | [] => rfl
  | x :: xs => by simp only [List.map_cons, strsOf, strsOf_tx xs, Option.map_some]
theorem o_joinT {st : Store} {Q : D → Store → Prop} {z : Str} {l : Nat} {xs : List Ch} (h : st[l]? = some (.lst (xs.map fun x => D.str (tx x)))) (hl : ((xs.map tx).map (·.length)).sum + xs.length * z.length ≤ LIM) : EvO (joinF (.str z) [.ref l] st) Q = Q (.str (Txt.join z (xs.map tx))) st := by
  simp only [joinF, h, strsOf_tx, Option.bind_some]
  rw [if_pos (by rw [List.length_map]; exact hl)]
  rfl
theorem dig_int {v : Int} (v0 : 0 ≤ v) (v3 : v ≤ 3) : PySem.intText? (tx [48 + v.toNat]) = some v ∧ (toString v : Str) = tx [48 + v.toNat] ∧ strIn (tx [48 + v.toNat]) "0123" = true := by
  have : v = 0 ∨ v = 1 ∨ v = 2 ∨ v = 3 := by omega
  rcases this with rfl | rfl | rfl | rfl <;> exact ⟨by decide +kernel, by decide +kernel, by decide +kernel⟩
end Mi
set_option Elab.async false
set_option linter.all false
set_option maxRecDepth 100000
set_option maxHeartbeats 1000000
/-! Qa: the reader of records as a stack machine over signs: what both readers of k12 are measured by. -/
namespace Mi
open PySem
/-- a small letter -/
def ltr (c : Nat) : Bool := decide (97 ≤ c ∧ c ≤ 122)
def nmOf (s : Ch) : Ch := s.takeWhile ltr
/-- a record's name, its value, what stands behind -/
def hd (s : Ch) : Option (Ch × Nat × Ch) := match s.drop (nmOf s).length with
  | 46 :: d :: r => if 1 ≤ (nmOf s).length ∧ (nmOf s).length ≤ 8 ∧ 48 ≤ d ∧ d ≤ 51 then some (nmOf s, d - 48, r) else none
  | _ => none
theorem hd_some {s : Ch} {x : Ch × Nat × Ch} (h : hd s = some x) : ∃ d, s = x.1 ++ 46 :: d :: x.2.2 ∧ x.1 = nmOf s ∧ 1 ≤ x.1.length ∧ x.1.length ≤ 8 ∧ 48 ≤ d ∧ d ≤ 51 ∧ x.2.1 = d - 48 := by
  unfold hd at h
  split at h
  · rename_i d r e
    split at h
    · rename_i hh
      cases h
      refine ⟨d, ?_, rfl, hh.1, hh.2.1, hh.2.2.1, hh.2.2.2, rfl⟩
      have h1 : s = s.take (nmOf s).length ++ s.drop (nmOf s).length := (List.take_append_drop _ _).symm
      have h2 : s.take (nmOf s).length = nmOf s := by
        unfold nmOf
        exact (List.prefix_iff_eq_take.mp (List.takeWhile_prefix ltr)).symm
      rw [e, h2] at h1
      exact h1
    · cases h
  · cases h
theorem hd_lt {s : Ch} {x : Ch × Nat × Ch} (h : hd s = some x) : x.2.2.length + 3 ≤ s.length := by
  obtain ⟨d, e, _, h1, _⟩ := hd_some h
  have := congrArg List.length e
  simp only [List.length_append, List.length_cons] at this
  omega
/-- a record as it is read -/
def rcd (nm : Ch) (v : Nat) (ps : List D) : D := .tup [.str (tx nm), .int v, .tup ps]
/-- the piles below: the records ahead of the open one, the open one's name, value and pieces -/
abbrev Pile := List D × Ch × Nat × List D
mutual
/-- a record is to come -/
def mE (K : List Pile) (acc : List D) (s : Ch) : Option (List D) := match h : hd s with
  | none => none
  | some x => mR K acc x.1 x.2.1 [] x.2.2
termination_by 2 * s.length
decreasing_by
  have := hd_lt h
  omega
/-- behind a record's head or one of its pieces -/
def mR (K : List Pile) (acc : List D) (nm : Ch) (v : Nat) (ps : List D) (s : Ch) : Option (List D) := match s with
  | [] => if K = [] then some (acc ++ [rcd nm v ps]) else none
  | c :: r =>
    if c = 91 then
      (if K.length < 30 then
        (if r.head? = some 93 then mR K acc nm v (ps ++ [.tup []]) (r.drop 1) else mE ((acc, nm, v, ps) :: K) [] r)
      else none)
    else if c = 93 then
      (match K with
      | [] => none
      | k :: K' => mR K' k.1 k.2.1 k.2.2.1 (k.2.2.2 ++ [.tup (acc ++ [rcd nm v ps])]) r)
    else if c = 32 then mE K (acc ++ [rcd nm v ps]) r
    else none
termination_by 2 * s.length
decreasing_by
  all_goals simp only [List.length_cons, List.length_drop]
  all_goals omega
end
/-! how it goes on -/
section
variable {K : List Pile} {acc ps : List D} {nm : Ch} {v : Nat} {s r : Ch}
theorem mE_none (h : hd s = none) : mE K acc s = none := by
  rw [mE]
  split
  · rfl
  · rename_i x hx
    rw [h] at hx; cases hx
theorem mE_some {x : Ch × Nat × Ch} (h : hd s = some x) : mE K acc s = mR K acc x.1 x.2.1 [] x.2.2 := by
  rw [mE]
  split
  · rename_i hx
    rw [h] at hx; cases hx
  · rename_i y hy
    rw [h] at hy; cases hy; rfl
theorem mR_nil : mR K acc nm v ps [] = if K = [] then some (acc ++ [rcd nm v ps]) else none := by rw [mR.eq_def]
theorem mR_open0 (hK : K.length < 30) : mR K acc nm v ps (91 :: 93 :: r) = mR K acc nm v (ps ++ [.tup []]) r := by
  rw [mR.eq_def]
  dsimp only
  rw [if_pos rfl, if_pos hK, if_pos (show (93 :: r).head? = some 93 from rfl)]
  rfl
theorem mR_open (hK : K.length < 30) (h : r.head? ≠ some 93) : mR K acc nm v ps (91 :: r) = mE ((acc, nm, v, ps) :: K) [] r := by
  rw [mR.eq_def]
  dsimp only
  rw [if_pos rfl, if_pos hK, if_neg h]
theorem mR_deep (hK : ¬ K.length < 30) : mR K acc nm v ps (91 :: r) = none := by
  rw [mR.eq_def]
  dsimp only
  rw [if_pos rfl, if_neg hK]
theorem mR_close0 : mR [] acc nm v ps (93 :: r) = none := by
  rw [mR.eq_def]
  dsimp only
  rw [if_neg (by decide), if_pos rfl]
theorem mR_close {k : Pile} : mR (k :: K) acc nm v ps (93 :: r) = mR K k.1 k.2.1 k.2.2.1 (k.2.2.2 ++ [.tup (acc ++ [rcd nm v ps])]) r := by
  rw [mR.eq_def]
  dsimp only
  rw [if_neg (by decide), if_pos rfl]
theorem mR_next : mR K acc nm v ps (32 :: r) = mE K (acc ++ [rcd nm v ps]) r := by
  rw [mR.eq_def]
  dsimp only
  rw [if_neg (by decide), if_neg (by decide), if_pos rfl]
theorem mR_odd {c : Nat} (h1 : c ≠ 91) (h2 : c ≠ 93) (h3 : c ≠ 32) : mR K acc nm v ps (c :: r) = none := by
  rw [mR.eq_def]
  dsimp only
  rw [if_neg h1, if_neg h2, if_neg h3]
end
end Mi
set_option Elab.async false
set_option linter.all false
set_option maxRecDepth 100000
set_option maxHeartbeats 1000000
/-! Qb: the program's reader is the machine. -/
namespace Mi
open PySem
theorem o_find {st : Store} {Q : D → Store → Prop} {a b : Str} {i : Int} : EvO (find3F (.str a) [.str b, .int i] st) Q = Q (.int (Txt.find3 a b i)) st := rfl
theorem o_max {st : Store} {Q : D → Store → Prop} {i j : Int} : EvO (maxF [.int i, .int j] st) Q = Q (.int (if j > i then j else i)) st := rfl
theorem o_tupleL {st : Store} {Q : D → Store → Prop} {l : Nat} {ds : List D} (h : st[l]? = some (.lst ds)) : EvO (tupleF [.ref l] st) Q = Q (.tup ds) st := by simp only [tupleF, h]; rfl
theorem o_int {st : Store} {Q : D → Store → Prop} {z : Str} {v : Int} (h : z.length ≤ 640) (e : PySem.intText? z = some v) : EvO (intF [.str z] st) Q = Q (.int v) st := by simp only [intF, if_pos h, e]; rfl
theorem o_eqS {st : Store} {Q : D → Store → Prop} {a b : Ch} : EvO (opB eqF (.str (tx a)) (.str (tx b)) st) Q = Q (.bl (decide (a = b))) st := by rw [o_opB eqF_str, beq_tx]
theorem neF_str {st : Store} {a b : Str} : neF (.str a) (.str b) st = some (!(a == b)) := by
  have e := eqF_str (st := st) (a := a) (b := b)
  unfold eqF at e
  unfold neF
  rw [e]
  rfl
theorem o_neS {st : Store} {Q : D → Store → Prop} {a b : Ch} : EvO (opB neF (.str (tx a)) (.str (tx b)) st) Q = Q (.bl (!decide (a = b))) st := by rw [o_opB neF_str, beq_tx]
theorem o_eqI {st : Store} {Q : D → Store → Prop} {a b : Int} : EvO (opB eqF (.int a) (.int b) st) Q = Q (.bl (a == b)) st := o_opB eqF_int
theorem s_rb : (Str.ofString "]") = tx [93] := by decide +kernel
theorem s_lb : (Str.ofString "[") = tx [91] := by decide +kernel
theorem s_sp : (Str.ofString " ") = tx [32] := by decide +kernel
theorem s_dot : (Str.ofString ".") = ⟨#[46]⟩ := by decide +kernel
theorem s_nil : (Str.ofString "") = tx [] := by decide +kernel
theorem s_dash : (Str.ofString "-") = tx [45] := by decide +kernel
/-- while, by a measure -/
theorem evs_wh {t : TF1} {body : SF} {E : En} (I : Nat → Rho → Store → Prop) (hb : ∀ m p st, I m p st → EvX (fun e st => E.xc e p st) (t p st) fun b st1 => if b = true then EvS (body p st1) { nx := fun p s => ∃ m', m' < m ∧ I m' p s, ct := fun p s => ∃ m', m' < m ∧ I m' p s, bk := E.nx, rt := E.rt, xc := E.xc } else E.nx p st1) :
    ∀ (n m : Nat) (p : Rho) (st : Store), m < n → I m p st → EvS (whGo t body n p st) E
  | 0, _, _, _, h, _ => absurd h (by omega)
  | n + 1, m, p, st, h, i => by
    unfold whGo
    rw [evs_bind]
    refine (hb m p st i).mono fun b st1 h1 => ?_
    cases b with
    | false =>
      rw [if_neg (by decide)] at h1 ⊢
      exact h1
    | true =>
      rw [if_pos rfl] at h1 ⊢
      cases q : body p st1 with
      | nx p2 st2 => rw [q] at h1; obtain ⟨m', h2, h3⟩ := h1; exact evs_wh I hb n m' p2 st2 (by omega) h3
      | ct p2 st2 => rw [q] at h1; obtain ⟨m', h2, h3⟩ := h1; exact evs_wh I hb n m' p2 st2 (by omega) h3
      | bk p2 st2 => rw [q] at h1; exact h1
      | rt d st2 => rw [q] at h1; exact h1
      | xc e p2 st2 => rw [q] at h1; exact h1
      | bad => rw [q] at h1; exact h1.elim
/-- the error of a text that is none -/
def E0 : Exc := ⟨"InvalidText", [("line", .int 0)]⟩
theorem take1_is {post : Ch} {c : Nat} : decide (post.take 1 = [c]) = decide (post.head? = some c) := by
  cases post with
  | nil => rfl
  | cons d post => simp
/-- read_record at s: what is read is what the machine reads, whatever the piles -/
def RdR (n : Nat) : Prop := ∀ {o : Nat} {T pre s : Ch} {st : Store} {Q : D → Store → Prop} {Y : Exc → Store → Prop}, o ≤ 30 → 99 ≤ n + 3 * o → T = pre ++ s → T.length ≤ 4000 →
  ((∀ (K : List Pile) acc, K.length = o → mE K acc s = none) → ∀ st', App st st' → Y E0 st') →
  (∀ nm v ps mid post, s = mid ++ post → 1 ≤ mid.length → post.head? ≠ some 91 → (∀ (K : List Pile) acc, K.length = o → mE K acc s = mR K acc nm v ps post) → ∀ st', App st st' → Q (.tup [rcd nm v ps, .int ((pre.length + mid.length : Nat) : Int)]) st') →
  EvX Y (F_read_record n [.str (tx T), .int (pre.length : Nat), .int o] st) Q
def RdRs (n : Nat) : Prop := ∀ {o : Nat} {T pre s : Ch} {st : Store} {Q : D → Store → Prop} {Y : Exc → Store → Prop}, o ≤ 30 → 100 ≤ n + 3 * o → T = pre ++ s → T.length ≤ 4000 →
  ((∀ (K : List Pile), K.length = o → mE K [] s = none) → ∀ st', App st st' → Y E0 st') →
  (∀ acc nm v ps mid post, s = mid ++ post → 1 ≤ mid.length → post.head? ≠ some 91 → post.head? ≠ some 32 → (∀ (K : List Pile), K.length = o → mE K [] s = mR K acc nm v ps post) → ∀ st', App st st' → Q (.tup [.tup (acc ++ [rcd nm v ps]), .int ((pre.length + mid.length : Nat) : Int)]) st') →
  EvX Y (F_read_records n [.str (tx T), .int (pre.length : Nat), .int o] st) Q
def RdP (n : Nat) : Prop := ∀ {o : Nat} {T pre s : Ch} {st : Store} {Q : D → Store → Prop} {Y : Exc → Store → Prop}, o ≤ 30 → 98 ≤ n + 3 * o → T = pre ++ 91 :: s → T.length ≤ 4000 →
  ((∀ (K : List Pile) acc nm v ps, K.length = o → mR K acc nm v ps (91 :: s) = none) → ∀ st', App st st' → Y E0 st') →
  (∀ p mid post, s = mid ++ post → (∀ (K : List Pile) acc nm v ps, K.length = o → mR K acc nm v ps (91 :: s) = mR K acc nm v (ps ++ [p]) post) → ∀ st', App st st' → Q (.tup [p, .int ((pre.length + 1 + mid.length : Nat) : Int)]) st') →
  EvX Y (F_read_piece n [.str (tx T), .int (pre.length : Nat), .int o] st) Q
theorem mR_stuck {K : List Pile} {acc ps : List D} {nm : Ch} {v : Nat} {s : Ch} (hK : K ≠ []) (h1 : s.head? ≠ some 91) (h2 : s.head? ≠ some 93) (h3 : s.head? ≠ some 32) : mR K acc nm v ps s = none := by
  cases s with
  | nil => rw [mR_nil, if_neg hK]
  | cons c r => exact mR_odd (fun e => h1 (by rw [e]; rfl)) (fun e => h2 (by rw [e]; rfl)) fun e => h3 (by rw [e]; rfl)
theorem head_cons {s : Ch} {c : Nat} (h : s.head? = some c) : ∃ r, s = c :: r := by
  cases s with
  | nil => cases h
  | cons d r => cases h; exact ⟨r, rfl⟩
theorem rd_piece {n : Nat} (hr : RdRs n) : RdP (n + 1) := by
  intro o T pre s st Q Y ho hn hT hl y q
  have fit : (tx T).length ≤ LIM := by rw [tx_len]; show _ ≤ 16777216; omega
  simp only [F_read_piece, g_MOST_BRACKETS, ev_run, evs_nil, evs_seq, evs_ret, evs_retN, evs_expr, evs_if, evs_set, evs_par2, evs_par3, evs_sub, evs_match, evs_mnil, evs_mcons, evs_for, ev_c, ev_v, ev_op, ev_un, ev_val, ev_bl, ev_tnot, ev_tand, ev_tor, ev_not, ev_and, ev_or, ev_if, ev_chain, ev_nil, ev_cons, ev_b, ev_call, ev_callK, ev_none, ev_some, ev_sl, ev_mt, ev_knil, ev_kcons, ev_dic, ev_iseq, ev_lc, ev_yes, ev_range1, ev_enum, ev_ok, ev_okX, evs_raise, ev_inRg, List.map_cons, List.map_nil, List.length_cons, List.length_nil, List.replicate, List.cons_append, List.nil_append, List.getElem?_cons_zero, List.getElem?_cons_succ, List.set_cons_zero, List.set_cons_succ, evs_asgT]
  rw [o_eqI, ev_bl]
  by_cases h30 : o = 30
  · rw [if_pos (by subst h30; decide)]
    exact y (fun K acc nm v ps hK => mR_deep (by omega)) st App.refl
  rw [if_neg (by have : ((o : Int) == 30) = false := by rw [beq_eq_false_iff_ne]; omega
                 rw [this]; decide), o_mkTup (by decide), o_add]
  dsimp only
  rw [o_add]
  dsimp only
  have e1 : ((pre.length : Nat) : Int) + 1 = ((pre ++ [91]).length : Nat) := by simp
  have hT1 : T = (pre ++ [91]) ++ s := by rw [hT]; simp
  have c1 : L2.cutS (tx T) (some ((pre.length : Nat) + 1)) (some ((pre.length : Nat) + 1 + 1)) = tx (s.take 1) := by
    rw [hT1]
    exact cut1 e1 (by rw [e1])
  rw [o_slS fit, c1, s_rb, o_neS, ev_bl, take1_is]
  by_cases h93 : s.head? = some 93
  · rw [decide_eq_true h93, if_neg (by decide), o_add]
    dsimp only
    rw [o_slS fit, c1, o_neS, ev_bl, take1_is, decide_eq_true h93, if_neg (by decide), o_add, o_mkTup (by show 2 ≤ 16777216; decide)]
    obtain ⟨r, rfl⟩ := head_cons h93
    have z := q (.tup []) [93] r rfl (fun K acc nm v ps hK => mR_open0 (by omega)) st App.refl
    have e : ((pre.length + 1 + [93].length : Nat) : Int) = (pre.length : Nat) + 1 + 1 := by simp
    rw [e] at z
    exact z
  · rw [decide_eq_false h93, if_pos (by decide), o_add, e1]
    have e2 : (o : Int) + 1 = ((o + 1 : Nat) : Int) := by omega
    rw [e2]
    refine hr (pre := pre ++ [91]) (s := s) (by omega) (by omega) hT1 hl (fun hm st' ap => ?_) fun acc nm v ps mid post hs h1 h91 h32 hm st' ap => ?_
    · exact y (fun K acc nm v ps hK => by rw [mR_open (by omega) h93]; exact hm _ (by simp [hK])) st' ap
    · rw [tg_2]
      simp only [List.map_cons, List.map_nil, List.length_cons, List.length_nil, List.replicate, List.cons_append, List.nil_append, List.getElem?_cons_zero, List.getElem?_cons_succ, List.set_cons_zero, List.set_cons_succ]
      rw [o_add]
      dsimp only
      have c2 : L2.cutS (tx T) (some (((pre ++ [91]).length + mid.length : Nat) : Int)) (some ((((pre ++ [91]).length + mid.length : Nat) : Int) + 1)) = tx (post.take 1) := by
        have e : T = (pre ++ [91] ++ mid) ++ post := by rw [hT1, hs]; simp
        rw [e]
        exact cut1 (by simp only [List.length_append]) (by simp only [List.length_append])
      rw [o_slS fit, c2, o_neS, ev_bl, take1_is]
      by_cases hp : post.head? = some 93
      · rw [decide_eq_true hp, if_neg (by decide), o_add, o_mkTup (by show 2 ≤ 16777216; decide)]
        obtain ⟨r, rfl⟩ := head_cons hp
        have z := q (.tup (acc ++ [rcd nm v ps])) (mid ++ [93]) r (by rw [hs]; simp) (fun K acc' nm' v' ps' hK => by rw [mR_open (by omega) h93, hm _ (by simp [hK]), mR_close]) st' ap
        have e : ((pre.length + 1 + (mid ++ [93]).length : Nat) : Int) = (((pre ++ [91]).length + mid.length : Nat) : Int) + 1 := by simp; omega
        rw [e] at z
        exact z
      · rw [decide_eq_false hp, if_pos (by decide)]
        exact y (fun K acc' nm' v' ps' hK => by rw [mR_open (by omega) h93, hm _ (by simp [hK]), mR_stuck (by simp) h91 hp h32]) st' ap
end Mi
set_option Elab.async false
set_option linter.all false
set_option maxRecDepth 100000
set_option maxHeartbeats 1000000
/-! Qc: read_records and read_record are the machine. -/
namespace Mi
open PySem
theorem rd_records {n : Nat} (hr : RdR n) : RdRs (n + 1) := by
  intro o T pre s st Q Y ho hn hT hl y q
  have fit : (tx T).length ≤ LIM := by rw [tx_len]; show _ ≤ 16777216; omega
  have hsl : s.length ≤ 4000 := by have := congrArg List.length hT; simp only [List.length_append] at this; omega
  simp only [F_read_records, ev_run, evs_nil, evs_seq, evs_ret, evs_retN, evs_expr, evs_if, evs_set, evs_par2, evs_par3, evs_sub, evs_match, evs_mnil, evs_mcons, evs_for, ev_c, ev_v, ev_op, ev_un, ev_val, ev_bl, ev_tnot, ev_tand, ev_tor, ev_not, ev_and, ev_or, ev_if, ev_chain, ev_nil, ev_cons, ev_b, ev_call, ev_callK, ev_none, ev_some, ev_sl, ev_mt, ev_knil, ev_kcons, ev_dic, ev_iseq, ev_lc, ev_yes, ev_range1, ev_enum, ev_ok, ev_okX, evs_raise, ev_inRg, List.map_cons, List.map_nil, List.length_cons, List.length_nil, List.replicate, List.cons_append, List.nil_append, List.getElem?_cons_zero, List.getElem?_cons_succ, List.set_cons_zero, List.set_cons_succ, evs_asgT]
  refine hr (pre := pre) (s := s) ho (by omega) hT hl (fun hm st' ap => y (fun K hK => hm K [] hK) st' ap) fun nm v ps mid post hs h1 h91 hm st1 ap1 => ?_
  rw [tg_2]
  simp only [List.map_cons, List.map_nil, List.length_cons, List.length_nil, List.replicate, List.cons_append, List.nil_append, List.getElem?_cons_zero, List.getElem?_cons_succ, List.set_cons_zero, List.set_cons_succ]
  rw [o_mkLst (by show 1 ≤ 16777216; decide)]
  refine evs_wh (fun m p s' => ∃ acc nm v ps mid post o4, s = mid ++ post ∧ acc.length + 1 ≤ mid.length ∧ post.length = m ∧ post.head? ≠ some 91 ∧ (∀ (K : List Pile), K.length = o → mE K [] s = mR K acc nm v ps post) ∧
    p = [some (.str (tx T)), some (.int (pre.length : Nat)), some (.int o), some (.ref st1.length), o4, some (.int ((pre.length + mid.length : Nat) : Int))] ∧ App st s' ∧ s'[st1.length]? = some (.lst (acc ++ [rcd nm v ps]))) (fun m p s' hI => ?_) 5000 post.length _ _ (by have := congrArg List.length hs; simp only [List.length_append] at this; omega)
    ⟨[], nm, v, ps, mid, post, some (rcd nm v ps), hs, by simpa using h1, rfl, h91, fun K hK => hm K [] hK, rfl, ap1.trans (App.one _), get_new⟩
  obtain ⟨acc, nm, v, ps, mid, post, o4, hs, hacc, rfl, h91, hm, rfl, ap, e⟩ := hI
  simp only [ev_run, evs_nil, evs_seq, evs_ret, evs_retN, evs_expr, evs_if, evs_set, evs_par2, evs_par3, evs_sub, evs_match, evs_mnil, evs_mcons, evs_for, ev_c, ev_v, ev_op, ev_un, ev_val, ev_bl, ev_tnot, ev_tand, ev_tor, ev_not, ev_and, ev_or, ev_if, ev_chain, ev_nil, ev_cons, ev_b, ev_call, ev_callK, ev_none, ev_some, ev_sl, ev_mt, ev_knil, ev_kcons, ev_dic, ev_iseq, ev_lc, ev_yes, ev_range1, ev_enum, ev_ok, ev_okX, evs_raise, ev_inRg, List.map_cons, List.map_nil, List.length_cons, List.length_nil, List.replicate, List.cons_append, List.nil_append, List.getElem?_cons_zero, List.getElem?_cons_succ, List.set_cons_zero, List.set_cons_succ, evs_asgT]
  rw [o_add]
  dsimp only
  have c1 : L2.cutS (tx T) (some ((pre.length + mid.length : Nat) : Int)) (some (((pre.length + mid.length : Nat) : Int) + 1)) = tx (post.take 1) := by
    have e : T = (pre ++ mid) ++ post := by rw [hT, hs]; simp
    rw [e]
    exact cut1 (by simp only [List.length_append]) (by simp only [List.length_append])
  rw [o_slS fit, c1, s_sp, o_eqS, ev_bl, take1_is]
  by_cases hp : post.head? = some 32
  · rw [decide_eq_true hp, if_pos rfl, o_add]
    obtain ⟨r, rfl⟩ := head_cons hp
    have ep : ((pre.length + mid.length : Nat) : Int) + 1 = ((pre ++ mid ++ [32]).length : Nat) := by simp only [List.length_append, List.length_cons, List.length_nil]; omega
    rw [ep]
    refine hr (pre := pre ++ mid ++ [32]) (s := r) ho (by omega) (by rw [hT, hs]; simp) hl (fun hm2 st' ap2 => y (fun K hK => by rw [hm K hK, mR_next]; exact hm2 K _ hK) st' (ap.trans ap2)) fun nm2 v2 ps2 mid2 post2 hs2 h12 h912 hm2 st2 ap2 => ?_
    rw [tg_2]
    simp only [List.map_cons, List.map_nil, List.length_cons, List.length_nil, List.replicate, List.cons_append, List.nil_append, List.getElem?_cons_zero, List.getElem?_cons_succ, List.set_cons_zero, List.set_cons_succ]
    refine ⟨ty_lst (ap2.get e), ?_⟩
    have hml : mid.length ≤ 4000 := by have := congrArg List.length hs; simp only [List.length_append] at this; omega
    rw [o_app (ap2.get e) (by simp only [List.length_append, List.length_cons, List.length_nil]; show _ < 16777216; omega)]
    refine ⟨post2.length, by rw [hs2]; simp only [List.length_append, List.length_cons]; omega, acc ++ [rcd nm v ps], nm2, v2, ps2, mid ++ 32 :: mid2, post2, some (rcd nm2 v2 ps2), by rw [hs, hs2]; simp, by simp only [List.length_append, List.length_cons, List.length_nil]; omega, rfl, h912,
      fun K hK => by rw [hm K hK, mR_next]; exact hm2 K _ hK, ?_, (ap.trans ap2).put ap1.len, by rw [get_set (ap2.get e)]⟩
    have ee : ((pre.length + (mid ++ 32 :: mid2).length : Nat) : Int) = (((pre ++ mid ++ [32]).length + mid2.length : Nat) : Int) := by simp only [List.length_append, List.length_cons, List.length_nil]; omega
    rw [ee]
  · rw [decide_eq_false hp, if_neg (by decide), o_tupleL e, o_mkTup (by show 2 ≤ 16777216; decide)]
    exact q acc nm v ps mid post hs (by omega) h91 hp hm s' ap
end Mi
set_option Elab.async false
set_option linter.all false
set_option maxRecDepth 100000
set_option maxHeartbeats 1000000
/-! Qd: read_record is the machine. -/
namespace Mi
open PySem
theorem is_name_str {z : Str} {st : Store} {Q : D → Store → Prop} (hl : z.length ≤ 1000000) (q : ∀ st', App st st' → Q (.bl (isName (.str z))) st') : Ev (F_is_name [.str z] st) Q := by
  simp only [F_is_name, g_LETTERS, g_MOST_LETTERS, ev_run, evs_nil, evs_seq, evs_ret, evs_retN, evs_expr, evs_if, evs_set, evs_par2, evs_par3, evs_sub, evs_match, evs_mnil, evs_mcons, evs_for, ev_c, ev_v, ev_op, ev_un, ev_val, ev_bl, ev_tnot, ev_tand, ev_tor, ev_not, ev_and, ev_or, ev_if, ev_chain, ev_nil, ev_cons, ev_b, ev_call, ev_callK, ev_none, ev_some, ev_sl, ev_mt, ev_knil, ev_kcons, ev_dic, ev_iseq, ev_lc, ev_yes, ev_range1, ev_enum, ev_ok, ev_okX, List.map_cons, List.map_nil, List.length_cons, List.length_nil, List.replicate, List.cons_append, List.nil_append, List.getElem?_cons_zero, List.getElem?_cons_succ, List.set_cons_zero, List.set_cons_succ]
  rw [o_isi (k := "str") rfl, ev_bl, if_neg (by decide), o_lenS (by show z.length ≤ 16777216; omega), o_cmp, ev_bl]
  by_cases c1 : (1 : Int) ≤ (z.length : Int)
  · rw [if_pos (decide_eq_true c1), o_cmp, ev_bl]
    by_cases c2 : (z.length : Int) ≤ 8
    · rw [decide_eq_true c2, if_neg (by decide)]
      dsimp only [itOf]
      first | rw [ev_ok] | rw [ev_okX]
      dsimp only
      refine ev_compP (fun _ => true) (fun d => match d with | .str y => .bl (strIn y abc) | d => d) trivial (fun d hd => ?_) ?_
      · obtain ⟨c, _, rfl⟩ := List.mem_map.mp hd
        exact ⟨_, rfl, rfl, fun _ => rfl⟩
      · rw [List.filter_eq_self.mpr (fun _ _ => rfl), List.map_map]
        have e : List.map ((fun d => match d with | D.str y => D.bl (strIn y abc) | d => d) ∘ fun c => D.str ⟨#[c]⟩) z.cps.toList = (z.cps.toList.map fun c => decide (c ∈ abc.cps.toList)).map D.bl := by
          rw [List.map_map]
          exact List.map_congr_left fun c _ => by show D.bl (strIn ⟨#[c]⟩ abc) = _; rw [strIn_one]; rfl
        have e8 : z.cps.toList.length ≤ 16777216 := by
          have : z.cps.toList.length = z.length := rfl
          omega
        rw [e, o_mkLst (by rw [List.length_map, List.length_map]; exact e8), o_all get_new]
        have r := q _ (App.one (O.lst ((z.cps.toList.map fun c => decide (c ∈ abc.cps.toList)).map D.bl)))
        have en : isName (.str z) = (z.cps.toList.map fun c => decide (c ∈ abc.cps.toList)).all id := by
          simp only [isName, isNm]
          rw [decide_eq_true (by omega), decide_eq_true (by omega), List.all_map]
          rfl
        rw [en] at r
        exact r
    · rw [decide_eq_false c2, if_pos (by decide)]
      have en : isName (.str z) = false := by
        simp only [isName, isNm]
        rw [decide_eq_false (by omega : ¬ z.length ≤ 8), Bool.and_false, Bool.false_and]
      have r := q _ App.refl
      rw [en] at r
      exact r
  · rw [if_neg (by simpa using c1), if_pos (by decide)]
    have en : isName (.str z) = false := by
      simp only [isName, isNm]
      rw [decide_eq_false (by omega : ¬ 1 ≤ z.length), Bool.false_and, Bool.false_and]
    have r := q _ App.refl
    rw [en] at r
    exact r

theorem abc_in : ∀ c, 97 ≤ c → c ≤ 122 → c ∈ abc.cps.toList := fun c h1 h2 => by
  have h : ∀ c ∈ List.range 123, 97 ≤ c → c ∈ abc.cps.toList := by decide +kernel
  exact h c (List.mem_range.mpr (by omega)) h1
theorem isNm_tx {a : Ch} : isNm (tx a) = true ↔ 1 ≤ a.length ∧ a.length ≤ 8 ∧ ∀ c ∈ a, ltr c = true := by
  constructor
  · intro h
    have z := nm_len h
    rw [tx_list] at z
    exact ⟨z.1, z.2.1, fun c hc => decide_eq_true (z.2.2 c hc)⟩
  · rintro ⟨h1, h2, h3⟩
    simp only [isNm, Bool.and_eq_true, decide_eq_true_eq, List.all_eq_true]
    refine ⟨⟨by rw [tx_len]; exact h1, by rw [tx_len]; exact h2⟩, fun c hc => ?_⟩
    rw [tx_list] at hc
    have := of_decide_eq_true (h3 c hc)
    exact abc_in c this.1 this.2
theorem nmOf_ltr {s : Ch} : ∀ c ∈ nmOf s, ltr c = true := fun c hc => by
  unfold nmOf at hc
  exact List.all_eq_true.mp List.all_takeWhile c hc
theorem nmOf_app {a b : Ch} (h : ∀ c ∈ a, ltr c = true) : nmOf (a ++ 46 :: b) = a := by
  unfold nmOf
  rw [List.takeWhile_append_of_pos h, List.takeWhile_cons_of_neg (by decide), List.append_nil]
/-- a name that stands there, and what may stand behind its dot -/
theorem hd_app {a b : Ch} (h : isNm (tx a) = true) : hd (a ++ 46 :: b) = (match b with | d :: r => if 48 ≤ d ∧ d ≤ 51 then some (a, d - 48, r) else none | [] => none) := by
  obtain ⟨h1, h2, h3⟩ := isNm_tx.mp h
  unfold hd
  rw [nmOf_app h3, List.drop_left]
  cases b with
  | nil => rfl
  | cons d r =>
    show (if 1 ≤ a.length ∧ a.length ≤ 8 ∧ 48 ≤ d ∧ d ≤ 51 then some (a, d - 48, r) else none) = (if 48 ≤ d ∧ d ≤ 51 then some (a, d - 48, r) else none)
    by_cases hd : 48 ≤ d ∧ d ≤ 51
    · rw [if_pos ⟨h1, h2, hd.1, hd.2⟩, if_pos hd]
    · rw [if_neg (fun z => hd ⟨z.2.2.1, z.2.2.2⟩), if_neg hd]
theorem hd_no {s : Ch} (h : ∀ a b, s = a ++ 46 :: b → (∀ c ∈ a, c ≠ 46) → isNm (tx a) = false) : hd s = none := by
  cases e : hd s with
  | none => rfl
  | some x =>
    exfalso
    obtain ⟨d, e1, e2, e3, e4, _⟩ := hd_some e
    have hl : ∀ c ∈ x.1, ltr c = true := by rw [e2]; exact nmOf_ltr
    have := h x.1 _ e1 fun c hc z => by
      have := hl c hc
      rw [z] at this
      exact absurd this (by decide)
    rw [isNm_tx.mpr ⟨e3, e4, hl⟩] at this
    cases this
theorem dot_or (s : Ch) : (∃ a b, s = a ++ 46 :: b ∧ ∀ c ∈ a, c ≠ 46) ∨ ∀ c ∈ s, c ≠ 46 := by
  induction s with
  | nil => exact .inr (by simp)
  | cons d s ih =>
    by_cases h : d = 46
    · exact .inl ⟨[], s, by rw [h]; rfl, by simp⟩
    · rcases ih with ⟨a, b, rfl, h2⟩ | h2
      · exact .inl ⟨d :: a, b, rfl, fun c hc => by
          rcases List.mem_cons.mp hc with rfl | hc
          · exact h
          · exact h2 c hc⟩
      · exact .inr fun c hc => by
          rcases List.mem_cons.mp hc with rfl | hc
          · exact h
          · exact h2 c hc
theorem find_no {pre s : Ch} (h : ∀ c ∈ s, c ≠ 46) : Txt.find3 (tx (pre ++ s)) ⟨#[46]⟩ (pre.length : Nat) = -1 := by
  have hl : (tx (pre ++ s)).length = pre.length + s.length := by rw [tx_len, List.length_append]
  have fi : fromIndex (tx (pre ++ s)).length (pre.length : Nat) = pre.length := by
    unfold fromIndex
    rw [hl, if_neg (by omega)]
    omega
  rcases StrLaws.find3_spec (tx (pre ++ s)) 46 (pre.length : Nat) with ⟨e, _⟩ | ⟨k, _, hlo, hlt, hk, _⟩
  · exact e
  · exfalso
    rw [fi] at hlo
    rw [hl] at hlt
    rw [getD_tx, List.getElem?_append_right hlo] at hk
    have hlt2 : k - pre.length < s.length := by omega
    rw [List.getElem?_eq_getElem hlt2] at hk
    exact h _ (List.getElem_mem hlt2) (by simpa using hk)
theorem app_uniq : ∀ {a a' b b' : Ch}, a ++ 46 :: b = a' ++ 46 :: b' → (∀ c ∈ a, c ≠ 46) → (∀ c ∈ a', c ≠ 46) → a = a' ∧ b = b'
  | [], [], _, _, e, _, _ => ⟨rfl, by simpa using e⟩
  | [], c :: a', _, _, e, _, h' => by
    simp only [List.nil_append, List.cons_append, List.cons.injEq] at e
    exact absurd e.1.symm (h' c List.mem_cons_self)
  | c :: a, [], _, _, e, h, _ => by
    simp only [List.nil_append, List.cons_append, List.cons.injEq] at e
    exact absurd e.1 (h c List.mem_cons_self)
  | c :: a, c' :: a', b, b', e, h, h' => by
    simp only [List.cons_append, List.cons.injEq] at e
    obtain ⟨e1, e2⟩ := app_uniq e.2 (fun x hx => h x (List.mem_cons_of_mem _ hx)) fun x hx => h' x (List.mem_cons_of_mem _ hx)
    exact ⟨by rw [e.1, e1], e2⟩
end Mi
set_option Elab.async false
set_option linter.all false
set_option maxRecDepth 100000
set_option maxHeartbeats 1000000
/-! Qe: read_record is the machine. -/
namespace Mi
open PySem
theorem in_val {d : Nat} : strIn (tx [d]) "0123" = decide (48 ≤ d ∧ d ≤ 51) := by
  show (if (1 : Nat) = 1 then decide (d ∈ (Str.ofString "0123").cps.toList) else _) = _
  rw [if_pos rfl]
  have e : (Str.ofString "0123").cps.toList = [48, 49, 50, 51] := by decide +kernel
  rw [e]
  rw [Bool.eq_iff_iff, decide_eq_true_eq, decide_eq_true_eq]
  simp only [List.mem_cons, List.not_mem_nil, or_false]
  omega
structure hd_ok (a : Ch) (d : Nat) (r : Ch) : Prop where
  nm : isNm (tx a) = true
  dg : 48 ≤ d ∧ d ≤ 51
theorem hd_ok.mE {a r : Ch} {d : Nat} {K : List Pile} {acc : List D} (h : hd_ok a d r) : mE K acc (a ++ 46 :: d :: r) = mR K acc a (d - 48) [] r := by
  have e : hd (a ++ 46 :: d :: r) = some (a, d - 48, r) := by rw [hd_app h.nm]; exact if_pos h.dg
  rw [mE_some e]
theorem rd_record {n : Nat} (hp : RdP n) : RdR (n + 1) := by
  intro o T pre s st Q Y ho hn hT hl y q
  have fit : (tx T).length ≤ LIM := by rw [tx_len]; show _ ≤ 16777216; omega
  have hsl : s.length ≤ 4000 := by have := congrArg List.length hT; simp only [List.length_append] at this; omega
  simp only [F_read_record, g_VALUES, ev_run, evs_nil, evs_seq, evs_ret, evs_retN, evs_expr, evs_if, evs_set, evs_par2, evs_par3, evs_sub, evs_match, evs_mnil, evs_mcons, evs_for, ev_c, ev_v, ev_op, ev_un, ev_val, ev_bl, ev_tnot, ev_tand, ev_tor, ev_not, ev_and, ev_or, ev_if, ev_chain, ev_nil, ev_cons, ev_b, ev_call, ev_callK, ev_none, ev_some, ev_sl, ev_mt, ev_knil, ev_kcons, ev_dic, ev_iseq, ev_lc, ev_yes, ev_range1, ev_enum, ev_ok, ev_okX, evs_raise, ev_inRg, List.map_cons, List.map_nil, List.length_cons, List.length_nil, List.replicate, List.cons_append, List.nil_append, List.getElem?_cons_zero, List.getElem?_cons_succ, List.set_cons_zero, List.set_cons_succ, evs_asgT]
  refine ⟨rfl, ?_⟩
  rw [o_find, s_dot]
  rcases dot_or s with ⟨a, b, rfl, ha⟩ | hno
  · have ef : Txt.find3 (tx T) ⟨#[46]⟩ (pre.length : Nat) = ((pre.length + a.length : Nat) : Int) := by
      have e : T = pre ++ a ++ 46 :: b := by rw [hT]; simp
      rw [e]
      exact find_tx ha rfl
    have em : (if ((pre.length + a.length : Nat) : Int) > (pre.length : Nat) then ((pre.length + a.length : Nat) : Int) else (pre.length : Nat)) = ((pre.length + a.length : Nat) : Int) := by split <;> omega
    rw [ef, o_max, em]
    dsimp only
    have en : L2.cutS (tx T) (some (pre.length : Nat)) (some ((pre.length + a.length : Nat) : Int)) = tx a := by
      have e : T = pre ++ a ++ 46 :: b := by rw [hT]; simp
      rw [e]
      exact cut_tx rfl (by omega)
    rw [o_slS fit, en, o_add]
    dsimp only
    rw [o_add]
    dsimp only
    have ev : L2.cutS (tx T) (some (((pre.length + a.length : Nat) : Int) + 1)) (some (((pre.length + a.length : Nat) : Int) + 2)) = tx (b.take 1) := by
      have e : T = (pre ++ a ++ [46]) ++ b := by rw [hT]; simp
      rw [e]
      exact cut1 (by simp only [List.length_append, List.length_cons, List.length_nil]; omega) (by simp only [List.length_append, List.length_cons, List.length_nil]; omega)
    rw [o_slS fit, ev]
    have al : a.length ≤ 4000 := by simp only [List.length_append] at hsl; omega
    refine Ev.toX (is_name_str (by rw [tx_len]; omega) fun st1 ap1 => ?_)
    rw [ev_bl]
    by_cases hnm : isNm (tx a) = true
    · have hname : isName (.str (tx a)) = true := hnm
      rw [hname, if_neg (by decide), s_nil, o_eqS, ev_bl]
      cases b with
      | nil =>
        rw [if_pos (by decide)]
        first
          | exact y (fun K acc hK => mE_none (hd_app hnm)) st1 ap1
          | (rw [if_pos True.intro]; exact y (fun K acc hK => mE_none (hd_app hnm)) st1 ap1)
      | cons d r =>
        have tk : (d :: r).take 1 = [d] := rfl
        rw [if_neg (by simp), tk]
        have e_in : (fun x y st => Option.map (fun x => !x) (inF x y st)) (D.str (tx [d])) (D.str "0123") st1 = some (!decide (48 ≤ d ∧ d ≤ 51)) := by
          show Option.map (fun x => !x) (some (strIn (tx [d]) "0123")) = _
          rw [in_val]
          rfl
        rw [o_opB e_in, ev_bl]
        by_cases hd : 48 ≤ d ∧ d ≤ 51
        · rw [decide_eq_true hd, if_neg (by decide), o_mkLst (by decide), o_add]
          have dg := dig_int (v := ((d - 48 : Nat) : Int)) (by omega) (by omega)
          have e48 : 48 + ((d - 48 : Nat) : Int).toNat = d := by omega
          rw [e48] at dg
          have hh : hd_ok a d r := ⟨hnm, hd⟩
          refine evs_wh (fun m p s' => ∃ ps mid post o7, a ++ 46 :: d :: r = mid ++ post ∧ ps.length + 1 ≤ mid.length ∧ post.length = m ∧ (∀ (K : List Pile) acc, K.length = o → mE K acc (a ++ 46 :: d :: r) = mR K acc a (d - 48) ps post) ∧
            p = [some (.str (tx T)), some (.int (pre.length : Nat)), some (.int o), some (.int ((pre.length + mid.length : Nat) : Int)), some (.str (tx a)), some (.str (tx [d])), some (.ref st1.length), o7] ∧ App st s' ∧ s'[st1.length]? = some (.lst ps)) (fun m p s' hI => ?_) 5000 r.length _ _ (by simp only [List.length_append, List.length_cons] at hsl; omega)
            ⟨[], a ++ [46, d], r, none, by simp, by simp only [List.length_append, List.length_cons, List.length_nil]; omega, rfl, fun K acc hK => hh.mE, by
              have : ((pre.length + a.length : Nat) : Int) + 2 = ((pre.length + (a ++ [46, d]).length : Nat) : Int) := by simp only [List.length_append, List.length_cons, List.length_nil]; omega
              rw [this], ap1.trans (App.one _), get_new⟩
          obtain ⟨ps, mid, post, o7, hs, hps, rfl, hm, rfl, ap, e⟩ := hI
          simp only [ev_run, evs_nil, evs_seq, evs_ret, evs_retN, evs_expr, evs_if, evs_set, evs_par2, evs_par3, evs_sub, evs_match, evs_mnil, evs_mcons, evs_for, ev_c, ev_v, ev_op, ev_un, ev_val, ev_bl, ev_tnot, ev_tand, ev_tor, ev_not, ev_and, ev_or, ev_if, ev_chain, ev_nil, ev_cons, ev_b, ev_call, ev_callK, ev_none, ev_some, ev_sl, ev_mt, ev_knil, ev_kcons, ev_dic, ev_iseq, ev_lc, ev_yes, ev_range1, ev_enum, ev_ok, ev_okX, evs_raise, ev_inRg, List.map_cons, List.map_nil, List.length_cons, List.length_nil, List.replicate, List.cons_append, List.nil_append, List.getElem?_cons_zero, List.getElem?_cons_succ, List.set_cons_zero, List.set_cons_succ, evs_asgT]
          rw [o_add]
          dsimp only
          have c1 : L2.cutS (tx T) (some ((pre.length + mid.length : Nat) : Int)) (some (((pre.length + mid.length : Nat) : Int) + 1)) = tx (post.take 1) := by
            have e : T = (pre ++ mid) ++ post := by rw [hT, hs]; simp
            rw [e]
            exact cut1 (by simp only [List.length_append]) (by simp only [List.length_append])
          rw [o_slS fit, c1, s_lb, o_eqS, ev_bl, take1_is]
          by_cases hp91 : post.head? = some 91
          · rw [decide_eq_true hp91, if_pos rfl]
            obtain ⟨r', rfl⟩ := head_cons hp91
            have ep : ((pre.length + mid.length : Nat) : Int) = ((pre ++ mid).length : Nat) := by rw [List.length_append]
            rw [ep]
            refine hp (pre := pre ++ mid) (s := r') ho (by omega) (by rw [hT, hs]; simp) hl (fun hm2 st' ap2 => y (fun K acc hK => by rw [hm K acc hK]; exact hm2 K acc _ _ _ hK) st' (ap.trans ap2)) fun p mid2 post2 hs2 hm2 st2 ap2 => ?_
            rw [tg_2]
            simp only [List.map_cons, List.map_nil, List.length_cons, List.length_nil, List.replicate, List.cons_append, List.nil_append, List.getElem?_cons_zero, List.getElem?_cons_succ, List.set_cons_zero, List.set_cons_succ]
            refine ⟨ty_lst (ap2.get e), ?_⟩
            have hml : mid.length ≤ 4000 := by have := congrArg List.length hs; rw [this] at hsl; simp only [List.length_append] at hsl; omega
            rw [o_app (ap2.get e) (by show _ < 16777216; omega)]
            refine ⟨post2.length, by rw [hs2]; simp only [List.length_append, List.length_cons]; omega, ps ++ [p], mid ++ 91 :: mid2, post2, some p, by rw [hs, hs2]; simp, by simp only [List.length_append, List.length_cons, List.length_nil]; omega, rfl,
              fun K acc hK => by rw [hm K acc hK]; exact hm2 K acc _ _ _ hK, ?_, (ap.trans ap2).put ap1.len, by rw [get_set (ap2.get e)]⟩
            have ee : ((pre.length + (mid ++ 91 :: mid2).length : Nat) : Int) = (((pre ++ mid).length + 1 + mid2.length : Nat) : Int) := by simp only [List.length_append, List.length_cons, List.length_nil]; omega
            rw [ee]
          · rw [decide_eq_false hp91, if_neg (by decide), o_int (by rw [tx_len]; show 1 ≤ 640; decide) dg.1, o_tupleL e, o_mkTup (by show 3 ≤ 16777216; decide), o_mkTup (by show 2 ≤ 16777216; decide)]
            exact q a (d - 48) ps mid post hs (by omega) hp91 hm s' ap
        · rw [decide_eq_false hd, if_pos (by decide)]
          exact y (fun K acc hK => mE_none (by rw [hd_app hnm]; exact if_neg hd)) st1 ap1
    · have hn1 : isNm (tx a) = false := by simpa using hnm
      have hname : isName (.str (tx a)) = false := hn1
      have hn0 : hd (a ++ 46 :: b) = none := hd_no fun a' b' e h' => by
        obtain ⟨rfl, _⟩ := app_uniq e ha h'
        exact hn1
      rw [hname, if_pos (by decide)]
      first
        | exact y (fun K acc hK => mE_none hn0) st1 ap1
        | (rw [if_pos True.intro]; exact y (fun K acc hK => mE_none hn0) st1 ap1)
  · have ef : Txt.find3 (tx T) ⟨#[46]⟩ (pre.length : Nat) = -1 := by rw [hT]; exact find_no hno
    rw [ef, o_max, if_neg (by omega)]
    dsimp only
    have en : L2.cutS (tx T) (some (pre.length : Nat)) (some (pre.length : Nat)) = tx [] := by
      have e : T = pre ++ [] ++ s := by rw [hT]; simp
      rw [e]
      exact cut_tx rfl (by simp)
    rw [o_slS fit, en, o_add]
    dsimp only
    rw [o_add]
    dsimp only
    rw [o_slS fit]
    refine Ev.toX (is_name_str (by rw [tx_len]; simp) fun st1 ap1 => ?_)
    have hname : isName (.str (tx [])) = false := rfl
    have hn0 : hd s = none := hd_no fun a b e _ => absurd rfl (hno 46 (by rw [e]; simp))
    rw [ev_bl, hname, if_pos (by decide)]
    first
      | exact y (fun K acc hK => mE_none hn0) st1 ap1
      | (rw [if_pos True.intro]; exact y (fun K acc hK => mE_none hn0) st1 ap1)
theorem rd_all : ∀ n, RdR n ∧ RdRs n ∧ RdP n
  | 0 => ⟨fun ho hn _ _ _ _ => absurd hn (by omega), fun ho hn _ _ _ _ => absurd hn (by omega), fun ho hn _ _ _ _ => absurd hn (by omega)⟩
  | n + 1 => ⟨rd_record (rd_all n).2.2, rd_records (rd_all n).1, rd_piece (rd_all n).2.1⟩
end Mi
set_option Elab.async false
set_option linter.all false
set_option maxRecDepth 100000
set_option maxHeartbeats 1000000
/-! Qf: parse_story of any text is the machine. -/
namespace Mi
open PySem
theorem mR_last {acc ps : List D} {nm : Ch} {v : Nat} {s : Ch} (h : s ≠ []) (h1 : s.head? ≠ some 91) (h3 : s.head? ≠ some 32) : mR [] acc nm v ps s = none := by
  cases s with
  | nil => exact absurd rfl h
  | cons c r =>
    by_cases h2 : c = 93
    · subst h2; exact mR_close0
    · exact mR_odd (fun e => h1 (by rw [e]; rfl)) h2 fun e => h3 (by rw [e]; rfl)
theorem parse_text {T : Ch} {st : Store} {Q : D → Store → Prop} {Y : Exc → Store → Prop} (hl : T.length ≤ 4000) (y : T ≠ [45] → mE [] [] T = none → ∀ st', App st st' → Y E0 st') (q0 : T = [45] → Q (.tup []) st)
    (q : T ≠ [45] → ∀ xs, mE [] [] T = some xs → ∀ st', App st st' → Q (.tup xs) st') : EvX Y (F_parse_story [.str (tx T)] st) Q := by
  have fit : (tx T).length ≤ LIM := by rw [tx_len]; show _ ≤ 16777216; omega
  simp only [F_parse_story, g_EMPTY, ev_run, evs_nil, evs_seq, evs_ret, evs_retN, evs_expr, evs_if, evs_set, evs_par2, evs_par3, evs_sub, evs_match, evs_mnil, evs_mcons, evs_for, ev_c, ev_v, ev_op, ev_un, ev_val, ev_bl, ev_tnot, ev_tand, ev_tor, ev_not, ev_and, ev_or, ev_if, ev_chain, ev_nil, ev_cons, ev_b, ev_call, ev_callK, ev_none, ev_some, ev_sl, ev_mt, ev_knil, ev_kcons, ev_dic, ev_iseq, ev_lc, ev_yes, ev_range1, ev_enum, ev_ok, ev_okX, evs_raise, ev_inRg, List.map_cons, List.map_nil, List.length_cons, List.length_nil, List.replicate, List.cons_append, List.nil_append, List.getElem?_cons_zero, List.getElem?_cons_succ, List.set_cons_zero, List.set_cons_succ, evs_asgT]
  rw [o_isi (k := "str") rfl, ev_bl, if_neg (by decide), s_dash, o_eqS, ev_bl]
  by_cases h : T = [45]
  · rw [decide_eq_true h, if_pos rfl, o_mkTup (by decide)]
    exact q0 h
  · rw [decide_eq_false h, if_neg (by decide)]
    refine (rd_all 100).2.1 (o := 0) (pre := []) (s := T) (by omega) (by omega) rfl hl (fun hm st' ap => y h (hm [] rfl) st' ap) fun acc nm v ps mid post hs h1 h91 h32 hm st' ap => ?_
    rw [tg_2]
    simp only [List.map_cons, List.map_nil, List.length_cons, List.length_nil, List.replicate, List.cons_append, List.nil_append, List.getElem?_cons_zero, List.getElem?_cons_succ, List.set_cons_zero, List.set_cons_succ]
    rw [o_lenS fit]
    have hmm := hm [] rfl
    by_cases hp : post = []
    · subst hp
      have e : T = mid := by rw [hs]; simp
      have z := q h _ (hmm.trans mR_nil) st' ap
      have el : ((0 + mid.length : Nat) : Int) = ((tx T).length : Nat) := by rw [tx_len, e, Nat.zero_add]
      rw [el, o_opB neF_int, ev_bl, if_neg (by simp)]
      exact z
    · rw [mR_last hp h91 h32] at hmm
      have hne : ((0 + mid.length : Nat) : Int) ≠ ((tx T).length : Nat) := by
        rw [tx_len, Nat.zero_add]
        have e := congrArg List.length hs
        rw [List.length_append] at e
        have : 1 ≤ post.length := by
          cases post with
          | nil => exact absurd rfl hp
          | cons c r => simp
        omega
      rw [o_opB neF_int, ev_bl, if_pos (by rw [beq_eq_false_iff_ne.mpr hne]; rfl)]
      exact y h hmm st' ap
end Mi
set_option Elab.async false
set_option linter.all false
set_option maxRecDepth 100000
set_option maxHeartbeats 1000000
/-! Qg: what the law hears. -/
namespace Mi
open PySem
def judge (T : Ch) : Option (List D) := if T = [45] then some [] else mE [] [] T
def told (r : Option (List D)) : D := match r with
  | some xs => .tup [.str "story", .tup xs]
  | none => .tup [.str "text", .int 0]
theorem parse_judge {T : Ch} {st : Store} {Q : D → Store → Prop} {Y : Exc → Store → Prop} (hl : T.length ≤ 4000) (y : judge T = none → ∀ st', App st st' → Y E0 st') (q : ∀ xs, judge T = some xs → ∀ st', App st st' → Q (.tup xs) st') :
    EvX Y (F_parse_story [.str (tx T)] st) Q := by
  refine parse_text hl (fun h e => y (by unfold judge; rw [if_neg h]; exact e)) (fun h => q [] (by unfold judge; rw [if_pos h]) st App.refl) fun h xs e => q xs (by unfold judge; rw [if_neg h]; exact e)
theorem heard_gen {x : D} {r : Option (List D)} {w : Int} {st : Store} {Q : D → Store → Prop} (hp : ∀ {Q' : D → Store → Prop} {Y : Exc → Store → Prop}, (r = none → ∀ st', App st st' → Y E0 st') → (∀ xs, r = some xs → ∀ st', App st st' → Q' (.tup xs) st') → EvX Y (F_parse_story [x] st) Q') (q : ∀ st', App st st' → Q (told r) st') : Ev (F__law_heard [.int w, x] st) Q := by
  simp only [F__law_heard, ev_run, evs_nil, evs_seq, evs_ret, evs_retN, evs_expr, evs_if, evs_set, evs_par2, evs_par3, evs_sub, evs_match, evs_mnil, evs_mcons, evs_for, ev_c, ev_v, ev_op, ev_un, ev_val, ev_bl, ev_tnot, ev_tand, ev_tor, ev_not, ev_and, ev_or, ev_if, ev_chain, ev_nil, ev_cons, ev_b, ev_call, ev_callK, ev_none, ev_some, ev_sl, ev_mt, ev_knil, ev_kcons, ev_dic, ev_iseq, ev_lc, ev_yes, ev_range1, ev_enum, ev_ok, ev_okX, evs_raise, ev_inRg, List.map_cons, List.map_nil, List.length_cons, List.length_nil, List.replicate, List.cons_append, List.nil_append, List.getElem?_cons_zero, List.getElem?_cons_succ, List.set_cons_zero, List.set_cons_succ]
  rw [o_mkTup (by decide)]
  refine evs_try ?_
  simp only [ev_run, evs_nil, evs_seq, evs_ret, evs_retN, evs_expr, evs_if, evs_set, evs_par2, evs_par3, evs_sub, evs_match, evs_mnil, evs_mcons, evs_for, ev_c, ev_v, ev_op, ev_un, ev_val, ev_bl, ev_tnot, ev_tand, ev_tor, ev_not, ev_and, ev_or, ev_if, ev_chain, ev_nil, ev_cons, ev_b, ev_call, ev_callK, ev_none, ev_some, ev_sl, ev_mt, ev_knil, ev_kcons, ev_dic, ev_iseq, ev_lc, ev_yes, ev_range1, ev_enum, ev_ok, ev_okX, evs_raise, ev_inRg, List.map_cons, List.map_nil, List.length_cons, List.length_nil, List.replicate, List.cons_append, List.nil_append, List.getElem?_cons_zero, List.getElem?_cons_succ, List.set_cons_zero, List.set_cons_succ]
  rw [o_eqI, ev_bl]
  have hx : List.lookup E0.cls tabx_BreakError = some true := by decide +kernel
  have h1 : List.lookup E0.cls tabis_InvalidProgram_NoStory_TooGreat_TooMany = some false := by decide +kernel
  have h2 : List.lookup E0.cls tabis_ValueError = some true := by decide +kernel
  have h3 : List.lookup E0.cls tabis_InvalidText = some true := by decide +kernel
  have h4 : (List.lookup E0.cls tabfl_line == some true) = true := by decide +kernel
  have err : r = none → ∀ st', App st st' → Q (told none) st' := fun e st' ap => by have := q st' ap; rw [e] at this; exact this
  have ok : ∀ xs, r = some xs → ∀ st', App st st' → Q (told (some xs)) st' := fun xs e st' ap => by have := q st' ap; rw [e] at this; exact this
  split
  all_goals
    refine hp (fun e st' ap => ?_) fun xs e st' ap => ?_
    · rw [hx]
      refine ⟨.nx [some (.int w), some x, some (told none), none, some (.bl false)] st', fun a dd => ?_, err e st' ap⟩
      rw [h1, h2, h3, h4]
      have z1 : ∀ (b : Bool) (ks : List Str) (xs : List D) (st : Store), isxF a dd (some b) (.exn a dd ks xs) st = some (.bl b, st) := fun b ks xs st => by
        unfold isxF
        dsimp only
        rw [if_pos ⟨rfl, rfl⟩]
        rfl
      have z2 : ∀ (st : Store), xfF a dd true (Str.ofString "line") (.exn a dd (List.map (fun x => x.fst) E0.fs) (List.map (fun x => x.snd) E0.fs)) st = some (.int 0, st) := fun st => by
        unfold xfF
        dsimp only
        rw [if_pos ⟨rfl, rfl, rfl⟩]
        rfl
      simp [forgetS, sSeq, sAsg, eOr, eNot, eUn, tVal, z1, z2, eVar, bindS, bindR, optR, blR, sIf, tAndF, tNotF, eB, aCons, aNil, eC, mkTup, gNameF, told]
      rw [if_pos (by show 2 ≤ 16777216; decide)]
      rfl
    · rw [o_mkTup (by show 2 ≤ 16777216; decide)]
      exact ok xs e st' ap
theorem parse_odd {x : D} {k : String} {st : Store} {Q : D → Store → Prop} {Y : Exc → Store → Prop} (h : kindD x st = some k) (hk : k ∈ kinds) (hs : k ≠ "str") (y : Y E0 st) : EvX Y (F_parse_story [x] st) Q := by
  simp only [F_parse_story, ev_run, evs_nil, evs_seq, evs_ret, evs_retN, evs_expr, evs_if, evs_set, evs_par2, evs_par3, evs_sub, evs_match, evs_mnil, evs_mcons, evs_for, ev_c, ev_v, ev_op, ev_un, ev_val, ev_bl, ev_tnot, ev_tand, ev_tor, ev_not, ev_and, ev_or, ev_if, ev_chain, ev_nil, ev_cons, ev_b, ev_call, ev_callK, ev_none, ev_some, ev_sl, ev_mt, ev_knil, ev_kcons, ev_dic, ev_iseq, ev_lc, ev_yes, ev_range1, ev_enum, ev_ok, ev_okX, evs_raise, ev_inRg, List.map_cons, List.map_nil, List.length_cons, List.length_nil, List.replicate, List.cons_append, List.nil_append, List.getElem?_cons_zero, List.getElem?_cons_succ, List.set_cons_zero, List.set_cons_succ]
  rw [o_isi h (by decide) hk]
  have e : isTy "str" k = false := by
    unfold isTy
    rw [beq_eq_false_iff_ne.mpr hs]
    show (false || (k == "bool" && ("str" == "int"))) = false
    rw [show (("str" : String) == "int") = false by decide, Bool.and_false, Bool.or_false]
  rw [e, ev_bl, if_pos (by decide)]
  exact y
theorem heard_text {T : Ch} {w : Int} {st : Store} {Q : D → Store → Prop} (hl : T.length ≤ 4000) (q : ∀ st', App st st' → Q (told (judge T)) st') : Ev (F__law_heard [.int w, .str (tx T)] st) Q :=
  heard_gen (fun y k => parse_judge hl y k) q
theorem heard_odd {x : D} {k : String} {w : Int} {st : Store} {Q : D → Store → Prop} (h : kindD x st = some k) (hk : k ∈ kinds) (hs : k ≠ "str") (q : ∀ st', App st st' → Q (told none) st') : Ev (F__law_heard [.int w, x] st) Q :=
  heard_gen (r := none) (fun y _ => parse_odd h hk hs (y rfl _ App.refl)) q
end Mi
set_option Elab.async false
set_option linter.all false
set_option maxRecDepth 100000
set_option maxHeartbeats 1000000
/-! Qh: the law's own head of a record. -/
namespace Mi
open PySem
theorem o_ixC {pre post : Ch} {c : Nat} {i : Int} {st : Store} {Q : D → Store → Prop} (hi : i = pre.length) (hl : (pre ++ c :: post).length ≤ LIM) : EvO (ixF (.str (tx (pre ++ c :: post))) (.int i) st) Q = Q (.str (tx [c])) st := by
  subst hi
  have h : (pre ++ c :: post)[pre.length]? = some c := by simp
  simp only [ixF]
  rw [if_pos (by rw [tx_len]; exact hl), tx_list, L2.atI_nat h]
  rfl
theorem abc_ltr {c : Nat} : decide (c ∈ abc.cps.toList) = ltr c := by
  have ha : ∀ c ∈ abc.cps.toList, 97 ≤ c ∧ c ≤ 122 := by decide +kernel
  unfold ltr
  rw [Bool.eq_iff_iff, decide_eq_true_eq, decide_eq_true_eq]
  exact ⟨ha c, fun h => abc_in c h.1 h.2⟩
theorem o_inAbc {c : Nat} {st : Store} {Q : D → Store → Prop} : EvO (opB inF (.str (tx [c])) (.str "abcdefghijklmnopqrstuvwxyz") st) Q = Q (.bl (ltr c)) st := by
  have e : inF (.str (tx [c])) (.str "abcdefghijklmnopqrstuvwxyz") st = some (ltr c) := by
    show some (strIn ⟨#[c]⟩ abc) = _
    rw [strIn_one, abc_ltr]
  exact o_opB e
theorem any_eqS {st : Store} {a : Ch} : ∀ ys : List Ch, anyEq st (.str (tx a)) (ys.map fun y => .str (tx y)) = some (ys.any fun y => decide (y = a))
  | [] => rfl
  | y :: ys => by
    obtain ⟨n, e⟩ := eqn_pos
    have h1 : eqN EQN st (.str (tx y)) (.str (tx a)) = some (decide (y = a)) := by
      rw [e]
      show some (tx y == tx a) = _
      rw [beq_tx]
    simp only [List.map_cons, anyEq, h1, any_eqS ys, List.any_cons]
theorem tup4 : (D.tup [.str "0", .str "1", .str "2", .str "3"]) = D.tup ([[48], [49], [50], [51]].map fun y => .str (tx y)) := by
  have h0 : (Str.ofString "0") = tx [48] := by decide +kernel
  have h1 : (Str.ofString "1") = tx [49] := by decide +kernel
  have h2 : (Str.ofString "2") = tx [50] := by decide +kernel
  have h3 : (Str.ofString "3") = tx [51] := by decide +kernel
  show D.tup [.str (Str.ofString "0"), .str (Str.ofString "1"), .str (Str.ofString "2"), .str (Str.ofString "3")] = _
  rw [h0, h1, h2, h3]
  rfl
def is4 : Ch → Bool
  | [d] => decide (48 ≤ d ∧ d ≤ 51)
  | _ => false
theorem four {a : Ch} : ([[48], [49], [50], [51]].any fun y => decide (y = a)) = is4 a := by
  rcases a with _ | ⟨d, _ | ⟨e, r⟩⟩
  · decide
  · unfold is4
    rw [Bool.eq_iff_iff, List.any_eq_true, decide_eq_true_eq]
    constructor
    · rintro ⟨y, hy, e⟩
      have e := of_decide_eq_true e
      subst e
      simp only [List.mem_cons, List.not_mem_nil, or_false, List.cons.injEq, and_true] at hy
      omega
    · rintro ⟨h1, h2⟩
      have : d = 48 ∨ d = 49 ∨ d = 50 ∨ d = 51 := by omega
      refine ⟨[d], ?_, decide_eq_true rfl⟩
      rcases this with rfl | rfl | rfl | rfl <;> simp
  · unfold is4
    rw [Bool.eq_false_iff]
    intro h
    rw [List.any_eq_true] at h
    obtain ⟨y, hy, e⟩ := h
    have e := of_decide_eq_true e
    subst e
    simp at hy
def hdB (a b : Ch) : Option (Ch × Nat × Ch) := match b with
  | 46 :: d :: r => if 1 ≤ a.length ∧ a.length ≤ 8 ∧ 48 ≤ d ∧ d ≤ 51 then some (a, d - 48, r) else none
  | _ => none
theorem hdB_no {a b : Ch} (h : b.head? ≠ some 46) : hdB a b = none := by
  unfold hdB
  split
  · exact absurd rfl h
  · rfl
theorem hdB_len {a b : Ch} (h : ¬ (1 ≤ a.length ∧ a.length ≤ 8)) : hdB a b = none := by
  unfold hdB
  split
  · exact if_neg fun z => h ⟨z.1, z.2.1⟩
  · rfl
theorem drop_nm {s a b : Ch} (hs : s = a ++ b) (ha : ∀ c ∈ a, ltr c = true) (hb : ∀ c ∈ b.head?, ltr c = false) : nmOf s = a := by
  subst hs
  unfold nmOf
  rw [List.takeWhile_append_of_pos ha]
  cases b with
  | nil => simp
  | cons c b => rw [List.takeWhile_cons_of_neg (by simp [hb c (by simp)]), List.append_nil]
/-- what the law's own head answers -/
def hdD (s : Ch) : D := match hd s with
  | none => .non
  | some x => .tup [.str (tx x.1), .int x.2.1]
theorem law_head {T pre s : Ch} {st : Store} {Q : D → Store → Prop} (hT : T = pre ++ s) (hl : T.length ≤ 4000) (q : Q (hdD s) st) : Ev (F__law_head [.str (tx T), .int (pre.length : Nat)] st) Q := by
  have fit : (tx T).length ≤ LIM := by rw [tx_len]; show _ ≤ 16777216; omega
  have hsl : s.length ≤ 4000 := by have := congrArg List.length hT; simp only [List.length_append] at this; omega
  have fitT : T.length ≤ LIM := by show _ ≤ 16777216; omega
  simp only [F__law_head, ev_run, evs_nil, evs_seq, evs_ret, evs_retN, evs_expr, evs_if, evs_set, evs_par2, evs_par3, evs_sub, evs_match, evs_mnil, evs_mcons, evs_for, ev_c, ev_v, ev_op, ev_un, ev_val, ev_bl, ev_tnot, ev_tand, ev_tor, ev_not, ev_and, ev_or, ev_if, ev_chain, ev_nil, ev_cons, ev_b, ev_call, ev_callK, ev_none, ev_some, ev_sl, ev_mt, ev_knil, ev_kcons, ev_dic, ev_iseq, ev_lc, ev_yes, ev_range1, ev_enum, ev_ok, ev_okX, evs_raise, ev_inRg, List.map_cons, List.map_nil, List.length_cons, List.length_nil, List.replicate, List.cons_append, List.nil_append, List.getElem?_cons_zero, List.getElem?_cons_succ, List.set_cons_zero, List.set_cons_succ]
  refine EvS.mono (E := { nx := fun p s' => s' = st ∧ ∃ b, s = nmOf s ++ b ∧ p = [some (.str (tx T)), some (.int (pre.length : Nat)), some (.int ((pre.length + (nmOf s).length : Nat) : Int))] }) (evs_wh (fun m p s' => s' = st ∧ ∃ a b, s = a ++ b ∧ (∀ c ∈ a, ltr c = true) ∧ b.length = m ∧ p = [some (.str (tx T)), some (.int (pre.length : Nat)), some (.int ((pre.length + a.length : Nat) : Int))]) (fun m p s' hI => ?_) 5000 s.length _ _ (by omega) ⟨rfl, [], s, rfl, by simp, rfl, rfl⟩) (fun p s' hN => ?_) (fun _ _ h => h.elim) (fun _ _ h => h.elim) (fun _ _ h => h.elim) (fun _ _ _ h => h.elim)
  · obtain ⟨rfl, a, b, hs, ha, rfl, rfl⟩ := hI
    have hsl2 : a.length + b.length ≤ 4000 := by rw [hs] at hsl; simpa only [List.length_append] using hsl
    simp only [ev_run, evs_nil, evs_seq, evs_ret, evs_retN, evs_expr, evs_if, evs_set, evs_par2, evs_par3, evs_sub, evs_match, evs_mnil, evs_mcons, evs_for, ev_c, ev_v, ev_op, ev_un, ev_val, ev_bl, ev_tnot, ev_tand, ev_tor, ev_not, ev_and, ev_or, ev_if, ev_chain, ev_nil, ev_cons, ev_b, ev_call, ev_callK, ev_none, ev_some, ev_sl, ev_mt, ev_knil, ev_kcons, ev_dic, ev_iseq, ev_lc, ev_yes, ev_range1, ev_enum, ev_ok, ev_okX, evs_raise, ev_inRg, List.map_cons, List.map_nil, List.length_cons, List.length_nil, List.replicate, List.cons_append, List.nil_append, List.getElem?_cons_zero, List.getElem?_cons_succ, List.set_cons_zero, List.set_cons_succ]
    rw [o_lenS fit, o_cmp, ev_bl]
    have eT : T = (pre ++ a) ++ b := by rw [hT, hs]; simp
    have eL : ((tx T).length : Int) = ((pre.length + a.length : Nat) : Int) + (b.length : Nat) := by rw [tx_len, eT]; simp only [List.length_append]; omega
    have out : (∀ c ∈ b.head?, ltr c = false) → nmOf s = a := drop_nm hs ha
    cases b with
    | nil =>
      rw [if_neg (by rw [eL]; simp)]
      have e := out (by simp)
      rw [if_neg (by decide), e]
      exact ⟨rfl, [], hs, rfl⟩
    | cons c b =>
      rw [if_pos (by rw [eL]; simp only [List.length_cons, decide_eq_true_eq]; omega), eT, o_ixC (pre := pre ++ a) (post := b) (by rw [List.length_append]) (by rw [← eT]; exact fitT), o_inAbc, ev_bl, ← eT]
      by_cases hc : ltr c = true
      · rw [if_pos hc, o_add]
        refine ⟨b.length, by simp, rfl, a ++ [c], b, by rw [hs]; simp, fun x hx => ?_, rfl, ?_⟩
        · rcases List.mem_append.mp hx with hx | hx
          · exact ha x hx
          · rw [List.mem_singleton.mp hx]; exact hc
        · have : ((pre.length + a.length : Nat) : Int) + 1 = ((pre.length + (a ++ [c]).length : Nat) : Int) := by simp only [List.length_append, List.length_cons, List.length_nil]; omega
          rw [this]
      · rw [if_neg hc]
        have e := out (by intro x hx; cases hx; simpa using hc)
        rw [e]
        exact ⟨rfl, _, hs, rfl⟩
  · obtain ⟨rfl, b, hs, rfl⟩ := hN
    have eT : T = (pre ++ nmOf s) ++ b := by rw [hT, List.append_assoc, ← hs]
    have hdb : hd s = hdB (nmOf s) b := by
      have : s.drop (nmOf s).length = b := by
        have := congrArg (List.drop (nmOf s).length) hs
        rw [List.drop_left] at this
        exact this
      rw [← this]
      rfl
    simp only [ev_run, evs_nil, evs_seq, evs_ret, evs_retN, evs_expr, evs_if, evs_set, evs_par2, evs_par3, evs_sub, evs_match, evs_mnil, evs_mcons, evs_for, ev_c, ev_v, ev_op, ev_un, ev_val, ev_bl, ev_tnot, ev_tand, ev_tor, ev_not, ev_and, ev_or, ev_if, ev_chain, ev_nil, ev_cons, ev_b, ev_call, ev_callK, ev_none, ev_some, ev_sl, ev_mt, ev_knil, ev_kcons, ev_dic, ev_iseq, ev_lc, ev_yes, ev_range1, ev_enum, ev_ok, ev_okX, evs_raise, ev_inRg, List.map_cons, List.map_nil, List.length_cons, List.length_nil, List.replicate, List.cons_append, List.nil_append, List.getElem?_cons_zero, List.getElem?_cons_succ, List.set_cons_zero, List.set_cons_succ]
    rw [o_sub]
    dsimp only
    generalize ha : nmOf s = a at *
    by_cases hn : 1 ≤ a.length ∧ a.length ≤ 8
    · rw [if_neg (by rw [decide_eq_true (by omega)]; decide), o_add]
      dsimp only
      have c1 : L2.cutS (tx T) (some ((pre.length + a.length : Nat) : Int)) (some (((pre.length + a.length : Nat) : Int) + 1)) = tx (b.take 1) := by
        rw [eT]
        exact cut1 (by rw [List.length_append]) (by rw [List.length_append])
      rw [o_slS fit, c1, show (".": Str) = tx [46] from s_dot, o_neS, ev_bl, take1_is]
      by_cases h46 : b.head? = some 46
      · obtain ⟨r, rfl⟩ := head_cons h46
        rw [decide_eq_true h46, if_neg (by decide), o_add]
        dsimp only
        rw [o_add]
        dsimp only
        have c2 : L2.cutS (tx T) (some (((pre.length + a.length : Nat) : Int) + 1)) (some (((pre.length + a.length : Nat) : Int) + 2)) = tx (r.take 1) := by
          have e : T = (pre ++ a ++ [46]) ++ r := by rw [eT]; simp
          rw [e]
          exact cut1 (by simp only [List.length_append, List.length_cons, List.length_nil]; omega) (by simp only [List.length_append, List.length_cons, List.length_nil]; omega)
        rw [o_slS fit, c2, o_mkTup (by show 4 ≤ 16777216; decide)]
        have e_in : (fun x y st => Option.map (fun x => !x) (inF x y st)) (D.str (tx (r.take 1))) (D.tup [.str "0", .str "1", .str "2", .str "3"]) s' = some (!is4 (r.take 1)) := by
          show Option.map (fun x => !x) (inF _ _ _) = _
          rw [tup4]
          show Option.map (fun x => !x) (anyEq _ _ _) = _
          rw [any_eqS, four]
          rfl
        rw [o_opB e_in, ev_bl]
        by_cases hd4 : is4 (r.take 1) = true
        · obtain ⟨d, r, rfl⟩ : ∃ d r', r = d :: r' := by
            cases r with
            | nil => cases hd4
            | cons x r => exact ⟨x, r, rfl⟩
          have e23 : 48 ≤ d ∧ d ≤ 51 := of_decide_eq_true hd4
          rw [hd4, if_neg (by decide)]
          have cn : L2.cutS (tx T) (some (pre.length : Nat)) (some ((pre.length + a.length : Nat) : Int)) = tx a := by
            rw [eT]
            exact cut_tx rfl (by omega)
          have eT2 : T = (pre ++ a ++ [46]) ++ d :: r := by rw [eT]; simp
          rw [o_slS fit, cn, o_add]
          have dg := dig_int (v := ((d - 48 : Nat) : Int)) (by omega) (by omega)
          have e48 : 48 + ((d - 48 : Nat) : Int).toNat = d := by omega
          rw [e48] at dg
          rw [eT2, o_ixC (pre := pre ++ a ++ [46]) (post := r) (by simp only [List.length_append, List.length_cons, List.length_nil]; omega) (by rw [← eT2]; exact fitT), o_int (by rw [tx_len]; show 1 ≤ 640; decide) dg.1, o_mkTup (by show 2 ≤ 16777216; decide)]
          unfold hdD at q
          have eh : hdB a (46 :: d :: r) = some (a, d - 48, r) := if_pos ⟨hn.1, hn.2, e23⟩
          rw [hdb, eh] at q
          exact q
        · have hd5 : is4 (r.take 1) = false := by simpa using hd4
          rw [hd5, if_pos (by decide)]
          unfold hdD at q
          have eh : hdB a (46 :: r) = none := by
            cases r with
            | nil => rfl
            | cons d r => exact if_neg fun h => hd4 (decide_eq_true h.2.2)
          rw [hdb, eh] at q
          first | exact q | (rw [if_pos True.intro]; exact q)
      · rw [decide_eq_false h46, if_pos (by decide)]
        unfold hdD at q
        rw [hdb, hdB_no h46] at q
        first | exact q | (rw [if_pos True.intro]; exact q)
    · rw [if_pos (by rw [decide_eq_false (by omega)]; decide)]
      unfold hdD at q
      rw [hdb, hdB_len hn] at q
      first | exact q | (rw [if_pos True.intro]; exact q)
end Mi
set_option Elab.async false
set_option linter.all false
set_option maxRecDepth 100000
set_option maxHeartbeats 1000000
/-! Qi: records in lists, frozen. -/
namespace Mi
open PySem
def mapO {α β : Type} (f : α → Option β) : List α → Option (List β)
  | [] => some []
  | x :: xs => (f x).bind fun y => (mapO f xs).map (y :: ·)
theorem mapO_nil {α β : Type} {f : α → Option β} : mapO f [] = some [] := rfl
theorem mapO_app {α β : Type} {f : α → Option β} : ∀ {xs ys : List α} {us vs : List β}, mapO f xs = some us → mapO f ys = some vs → mapO f (xs ++ ys) = some (us ++ vs)
  | [], ys, us, vs, e, e' => by cases e; exact e'
  | x :: xs, ys, us, vs, e, e' => by
    simp only [mapO] at e
    obtain ⟨u, e1, e⟩ := Option.bind_eq_some_iff.mp e
    obtain ⟨us', e2, rfl⟩ := Option.map_eq_some_iff.mp e
    simp only [List.cons_append, mapO, e1, Option.bind_some, mapO_app e2 e', Option.map_some]
theorem mapO_one {α β : Type} {f : α → Option β} {x : α} {y : β} (h : f x = some y) : mapO f [x] = some [y] := by simp only [mapO, h, Option.bind_some, Option.map_some]
theorem mapO_mono {α β : Type} {f g : α → Option β} (h : ∀ x y, f x = some y → g x = some y) : ∀ {xs : List α} {ys : List β}, mapO f xs = some ys → mapO g xs = some ys
  | [], _, e => e
  | x :: xs, ys, e => by
    simp only [mapO] at e ⊢
    obtain ⟨u, e1, e⟩ := Option.bind_eq_some_iff.mp e
    obtain ⟨us', e2, rfl⟩ := Option.map_eq_some_iff.mp e
    rw [h x u e1, Option.bind_some, mapO_mono h e2, Option.map_some]
theorem mapO_len {α β : Type} {f : α → Option β} : ∀ {xs : List α} {ys : List β}, mapO f xs = some ys → ys.length = xs.length
  | [], _, e => by cases e; rfl
  | x :: xs, ys, e => by
    simp only [mapO] at e
    obtain ⟨u, e1, e⟩ := Option.bind_eq_some_iff.mp e
    obtain ⟨us', e2, rfl⟩ := Option.map_eq_some_iff.mp e
    simp only [List.length_cons, mapO_len e2]
theorem mapO_get {α β : Type} {f : α → Option β} : ∀ {xs : List α} {ys : List β} {i : Nat} {x : α}, mapO f xs = some ys → xs[i]? = some x → ∃ y, f x = some y ∧ ys[i]? = some y
  | [], _, i, x, _, e => by simp at e
  | x0 :: xs, ys, i, x, e, e' => by
    simp only [mapO] at e
    obtain ⟨u, e1, e⟩ := Option.bind_eq_some_iff.mp e
    obtain ⟨us', e2, rfl⟩ := Option.map_eq_some_iff.mp e
    cases i with
    | zero => simp at e'; subst e'; exact ⟨u, e1, rfl⟩
    | succ i =>
      have z := mapO_get (ys := us') (i := i) (x := x) e2 (by simpa using e')
      simpa using z
abbrev Look := Nat → Option O
/-- a list of lists [name, value, pieces], as tuples; at most n deep, lists of at most 20000 -/
def frzR (f : D → Option D) (m : Look) : D → Option D
  | .ref r => match m r with
    | some (.lst [nm, v, .ref q]) => match m q with
      | some (.lst ps) => if ps.length ≤ 20000 then (mapO f ps).map fun xs => .tup [nm, v, .tup xs] else none
      | _ => none
    | _ => none
  | _ => none
def frz : Nat → Look → D → Option D
  | 0, _, _ => none
  | n + 1, m, d => match d with
    | .ref l => match m l with
      | some (.lst rs) => if rs.length ≤ 20000 then (mapO (frzR (frz n m) m) rs).map .tup else none
      | _ => none
    | _ => none
/-- records under fuel n -/
abbrev fzR (n : Nat) (m : Look) : D → Option D := frzR (frz n m) m
theorem fzR_inv {f : D → Option D} {m : Look} {d x : D} (h : frzR f m d = some x) : ∃ r nm v q ps xs, d = .ref r ∧ m r = some (.lst [nm, v, .ref q]) ∧ m q = some (.lst ps) ∧ ps.length ≤ 20000 ∧ mapO f ps = some xs ∧ x = .tup [nm, v, .tup xs] := by
  cases d with
  | ref r =>
    simp only [frzR] at h
    split at h
    · rename_i nm v q e
      split at h
      · rename_i ps e2
        split at h
        · rename_i hl
          obtain ⟨xs, e3, rfl⟩ := Option.map_eq_some_iff.mp h
          exact ⟨r, nm, v, q, ps, xs, rfl, e, e2, hl, e3, rfl⟩
        · cases h
      · cases h
    · cases h
  | _ => cases h
theorem fzR_mk {f : D → Option D} {m : Look} {r q : Nat} {nm v : D} {ps xs : List D} (h1 : m r = some (.lst [nm, v, .ref q])) (h2 : m q = some (.lst ps)) (hl : ps.length ≤ 20000) (h3 : mapO f ps = some xs) : frzR f m (.ref r) = some (.tup [nm, v, .tup xs]) := by
  simp only [frzR, h1, h2, if_pos hl, h3, Option.map_some]
theorem frz_inv {n : Nat} {m : Look} {d x : D} (h : frz (n + 1) m d = some x) : ∃ l rs xs, d = .ref l ∧ m l = some (.lst rs) ∧ rs.length ≤ 20000 ∧ mapO (fzR n m) rs = some xs ∧ x = .tup xs := by
  cases d with
  | ref l =>
    simp only [frz] at h
    split at h
    · rename_i rs e
      split at h
      · rename_i hl
        obtain ⟨xs, e2, rfl⟩ := Option.map_eq_some_iff.mp h
        exact ⟨l, rs, xs, rfl, e, hl, e2, rfl⟩
      · cases h
    · cases h
  | _ => cases h
theorem frz_mk {n : Nat} {m : Look} {l : Nat} {rs xs : List D} (h1 : m l = some (.lst rs)) (hl : rs.length ≤ 20000) (h3 : mapO (fzR n m) rs = some xs) : frz (n + 1) m (.ref l) = some (.tup xs) := by
  simp only [frz, h1, if_pos hl, h3, Option.map_some]
theorem fzR_mono {f g : D → Option D} {m m' : Look} (hf : ∀ x y, f x = some y → g x = some y) (hm : ∀ l o, m l = some o → m' l = some o) {d x : D} (h : frzR f m d = some x) : frzR g m' d = some x := by
  obtain ⟨r, nm, v, q, ps, xs, rfl, e1, e2, hl, e3, rfl⟩ := fzR_inv h
  exact fzR_mk (hm _ _ e1) (hm _ _ e2) hl (mapO_mono hf e3)
theorem frz_mono {m m' : Look} (hm : ∀ l o, m l = some o → m' l = some o) : ∀ {n : Nat} {d x : D}, frz n m d = some x → frz n m' d = some x
  | 0, _, _, h => by cases h
  | n + 1, d, x, h => by
    obtain ⟨l, rs, xs, rfl, e1, hl, e3, rfl⟩ := frz_inv h
    exact frz_mk (hm _ _ e1) hl (mapO_mono (fun _ _ q => fzR_mono (fun _ _ => frz_mono hm) hm q) e3)
theorem frz_up {m : Look} {n : Nat} {d x : D} (h : frz n m d = some x) : frz (n + 1) m d = some x := by
  induction n generalizing d x with
  | zero => cases h
  | succ n ih =>
    obtain ⟨l, rs, xs, rfl, e1, hl, e3, rfl⟩ := frz_inv h
    exact frz_mk e1 hl (mapO_mono (fun _ _ q => fzR_mono (fun _ _ z => ih z) (fun _ _ z => z) q) e3)
theorem fzRs_mono {n : Nat} {m m' : Look} (hm : ∀ l o, m l = some o → m' l = some o) {rs xs : List D} (h : mapO (fzR n m) rs = some xs) : mapO (fzR n m') rs = some xs := mapO_mono (fun _ _ q => fzR_mono (fun _ _ => frz_mono hm) hm q) h
theorem frzs_mono {n : Nat} {m m' : Look} (hm : ∀ l o, m l = some o → m' l = some o) {rs xs : List D} (h : mapO (frz n m) rs = some xs) : mapO (frz n m') rs = some xs := mapO_mono (fun _ _ q => frz_mono hm q) h
def lk (st : Store) : Look := fun l => st[l]?
theorem App.lk {a b : Store} (h : App a b) : ∀ l o, Mi.lk a l = some o → Mi.lk b l = some o := fun _ _ e => h.get e
theorem take_get {α : Type} {xs : List α} {i : Nat} {x : α} (h : xs[i]? = some x) : xs.take i ++ [x] = xs.take (i + 1) := by rw [List.take_add_one, h]; rfl
/-- the law's own tuples of lists -/
theorem law_frozen : ∀ {n k : Nat} {st : Store} {d x : D} {Q : D → Store → Prop}, n ≤ k → frz n (lk st) d = some x → (∀ st', App st st' → Q x st') → Ev (F__law_frozen k [d] st) Q
  | 0, _, _, _, _, _, _, h, _ => by cases h
  | n + 1, 0, _, _, _, _, hk, _, _ => by omega
  | n + 1, k + 1, st, d, x, Q, hk, h, q => by
    obtain ⟨l, rs, xs, rfl, e1, hl, e3, rfl⟩ := frz_inv h
    have e1 : st[l]? = some (.lst rs) := e1
    simp only [F__law_frozen, ev_run, evs_nil, evs_seq, evs_ret, evs_retN, evs_expr, evs_if, evs_set, evs_par2, evs_par3, evs_sub, evs_match, evs_mnil, evs_mcons, evs_for, ev_c, ev_v, ev_op, ev_un, ev_val, ev_bl, ev_tnot, ev_tand, ev_tor, ev_not, ev_and, ev_or, ev_if, ev_chain, ev_nil, ev_cons, ev_b, ev_call, ev_callK, ev_none, ev_some, ev_sl, ev_mt, ev_knil, ev_kcons, ev_dic, ev_iseq, ev_lc, ev_yes, ev_range1, ev_enum, ev_ok, ev_okX, evs_raise, ev_inRg, List.map_cons, List.map_nil, List.length_cons, List.length_nil, List.replicate, List.cons_append, List.nil_append, List.getElem?_cons_zero, List.getElem?_cons_succ, List.set_cons_zero, List.set_cons_succ]
    simp only [itOf, e1]
    rw [ev_okX]
    refine ev_comp (fun i acc st' => App st st' ∧ acc = xs.take i) rs 0 [] st ⟨App.refl, by simp⟩ (fun i acc st' _ _ hI => hI.1.get e1) (fun i d acc st' _ hd hI => ?_) fun ys st' hI => ?_
    · obtain ⟨ap, rfl⟩ := hI
      rw [Nat.sub_zero] at hd
      obtain ⟨y, hy, hyi⟩ := mapO_get e3 hd
      obtain ⟨r, nm, v, q, ps, zs, rfl, er, eq, hpl, ep, rfl⟩ := fzR_inv hy
      have er' : st'[r]? = some (.lst [nm, v, .ref q]) := ap.get er
      have eq' : st'[q]? = some (.lst ps) := ap.get eq
      refine ⟨_, rfl, ?_⟩
      simp only [ev_run, evs_nil, evs_seq, evs_ret, evs_retN, evs_expr, evs_if, evs_set, evs_par2, evs_par3, evs_sub, evs_match, evs_mnil, evs_mcons, evs_for, ev_c, ev_v, ev_op, ev_un, ev_val, ev_bl, ev_tnot, ev_tand, ev_tor, ev_not, ev_and, ev_or, ev_if, ev_chain, ev_nil, ev_cons, ev_b, ev_call, ev_callK, ev_none, ev_some, ev_sl, ev_mt, ev_knil, ev_kcons, ev_dic, ev_iseq, ev_lc, ev_yes, ev_range1, ev_enum, ev_ok, ev_okX, evs_raise, ev_inRg, List.map_cons, List.map_nil, List.length_cons, List.length_nil, List.replicate, List.cons_append, List.nil_append, List.getElem?_cons_zero, List.getElem?_cons_succ, List.set_cons_zero, List.set_cons_succ, wipeR]
      first | rw [if_pos rfl] | rw [if_pos True.intro]
      rw [o_lst er' (d := nm) rfl, o_lst er' (d := v) rfl, o_lst er' (d := .ref q) rfl]
      simp only [itOf, eq']
      rw [ev_okX]
      refine ev_comp (fun j acc st2 => App st' st2 ∧ acc = zs.take j) ps 0 [] st' ⟨App.refl, by simp⟩ (fun j acc st2 _ _ hI => hI.1.get eq') (fun j d acc st2 _ hd hI => ?_) fun ws st2 hI => ?_
      · obtain ⟨ap2, rfl⟩ := hI
        rw [Nat.sub_zero] at hd
        obtain ⟨y, hy, hyj⟩ := mapO_get ep hd
        refine ⟨_, rfl, ?_⟩
        simp only [ev_run, evs_nil, evs_seq, evs_ret, evs_retN, evs_expr, evs_if, evs_set, evs_par2, evs_par3, evs_sub, evs_match, evs_mnil, evs_mcons, evs_for, ev_c, ev_v, ev_op, ev_un, ev_val, ev_bl, ev_tnot, ev_tand, ev_tor, ev_not, ev_and, ev_or, ev_if, ev_chain, ev_nil, ev_cons, ev_b, ev_call, ev_callK, ev_none, ev_some, ev_sl, ev_mt, ev_knil, ev_kcons, ev_dic, ev_iseq, ev_lc, ev_yes, ev_range1, ev_enum, ev_ok, ev_okX, evs_raise, ev_inRg, List.map_cons, List.map_nil, List.length_cons, List.length_nil, List.replicate, List.cons_append, List.nil_append, List.getElem?_cons_zero, List.getElem?_cons_succ, List.set_cons_zero, List.set_cons_succ, wipeR]
        first | rw [if_pos rfl] | rw [if_pos True.intro]
        refine law_frozen (n := n) (by omega) (frz_mono (ap.trans ap2).lk hy) fun st3 ap3 => ?_
        exact ⟨ap2.trans ap3, take_get hyj⟩
      · obtain ⟨ap2, ew⟩ := hI
        rw [List.nil_append] at ew
        have hzl := mapO_len ep
        have ew : ws = zs := by rw [ew, Nat.zero_add, ← hzl, List.take_length]
        subst ew
        rw [o_mkLst (by show _ ≤ 16777216; omega), o_tupleL get_new, o_mkTup (by show 3 ≤ 16777216; decide)]
        exact ⟨ap.trans (ap2.trans (App.one _)), take_get hyi⟩
    · obtain ⟨ap, ew⟩ := hI
      rw [List.nil_append] at ew
      have hzl := mapO_len e3
      have ew : ys = xs := by rw [ew, Nat.zero_add, ← hzl, List.take_length]
      subst ew
      rw [o_mkLst (by show _ ≤ 16777216; omega), o_tupleL get_new]
      exact q _ (ap.trans (App.one _))
end Mi
set_option Elab.async false
set_option linter.all false
set_option maxRecDepth 100000
set_option maxHeartbeats 1000000
/-! Qj: the piles of the law's own reader. -/
namespace Mi
open PySem
/-- an open pile at l, its last record at r, that one's pieces at q; behind its pieces tl; c: how many signs are read -/
def OpAt (c n : Nat) (m : Look) (st : Store) (x : Nat × Nat × Nat) (k : Pile) (tl : List D) : Prop :=
  ∃ rs ds, st[x.1]? = some (.lst (rs ++ [.ref x.2.1])) ∧ st[x.2.1]? = some (.lst [.str (tx k.2.1), .int k.2.2.1, .ref x.2.2]) ∧ st[x.2.2]? = some (.lst (ds ++ tl)) ∧
    mapO (fzR n m) rs = some k.1 ∧ mapO (frz n m) ds = some k.2.2.2 ∧ rs.length ≤ c ∧ ds.length ≤ c
def Bel (c : Nat) (m : Look) (st : Store) : List Pile → List (Nat × Nat × Nat) → List D → Prop
  | [], [], _ => True
  | k :: K, x :: P, tl => OpAt c (39 - K.length) m st x k tl ∧ Bel c m st K P [.ref x.1]
  | [], _ :: _, _ => False
  | _ :: _, [], _ => False
def pls (P : List (Nat × Nat × Nat)) : List Nat := P.flatMap fun x => [x.1, x.2.1, x.2.2]
def PileL (st : Store) (p0 : Nat) (ls : List Nat) : Prop := st[p0]? = some (.lst (ls.reverse.map .ref))
/-- a record is to come -/
def StE (c b : Nat) (st : Store) (p0 l : Nat) (K : List Pile) (acc : List D) : Prop := ∃ P L rs, L = p0 :: l :: pls P ∧ (∀ i ∈ L, b ≤ i) ∧ L.Nodup ∧ K.length ≤ 30 ∧
  PileL st p0 (l :: P.map (·.1)) ∧ Bel c (look L st) st K P [.ref l] ∧ st[l]? = some (.lst rs) ∧ mapO (fzR (39 - K.length) (look L st)) rs = some acc ∧ rs.length ≤ c
/-- behind a record's head or a piece -/
def StR (c b : Nat) (st : Store) (p0 l r q : Nat) (K : List Pile) (acc : List D) (nm : Ch) (v : Nat) (ps : List D) : Prop := ∃ P L, L = p0 :: l :: r :: q :: pls P ∧ (∀ i ∈ L, b ≤ i) ∧ L.Nodup ∧ K.length ≤ 30 ∧
  PileL st p0 (l :: P.map (·.1)) ∧ Bel c (look L st) st ((acc, nm, v, ps) :: K) ((l, r, q) :: P) []
theorem Bel.len {c : Nat} {m : Look} {st : Store} : ∀ {K : List Pile} {P : List (Nat × Nat × Nat)} {tl : List D}, Bel c m st K P tl → P.length = K.length
  | [], [], _, _ => rfl
  | k :: K, x :: P, _, h => by simp only [List.length_cons, Bel.len h.2]
  | [], _ :: _, _, h => h.elim
  | _ :: _, [], _, h => h.elim
theorem Bel.lt {c : Nat} {m : Look} {st : Store} : ∀ {K : List Pile} {P : List (Nat × Nat × Nat)} {tl : List D}, Bel c m st K P tl → ∀ i ∈ pls P, i < st.length
  | [], [], _, _, i, hi => by simp [pls] at hi
  | k :: K, x :: P, _, h, i, hi => by
    obtain ⟨⟨rs, ds, e1, e2, e3, _⟩, h2⟩ := h
    simp only [pls, List.flatMap_cons, List.mem_append, List.mem_cons, List.not_mem_nil, or_false] at hi
    rcases hi with (rfl | rfl | rfl) | hi
    · exact (List.getElem?_eq_some_iff.mp e1).1
    · exact (List.getElem?_eq_some_iff.mp e2).1
    · exact (List.getElem?_eq_some_iff.mp e3).1
    · exact Bel.lt h2 i hi
  | [], _ :: _, _, h, _, _ => h.elim
  | _ :: _, [], _, h, _, _ => h.elim
theorem OpAt.keep {c c' n : Nat} {m m' : Look} {st st' : Store} {x : Nat × Nat × Nat} {k : Pile} {tl : List D} (h : OpAt c n m st x k tl) (hc : c ≤ c') (hm : ∀ l o, m l = some o → m' l = some o) (hs : ∀ i ∈ [x.1, x.2.1, x.2.2], st'[i]? = st[i]?) : OpAt c' n m' st' x k tl := by
  obtain ⟨rs, ds, e1, e2, e3, e4, e5, e6, e7⟩ := h
  refine ⟨rs, ds, ?_, ?_, ?_, fzRs_mono hm e4, frzs_mono hm e5, by omega, by omega⟩
  · rw [hs _ (by simp)]; exact e1
  · rw [hs _ (by simp)]; exact e2
  · rw [hs _ (by simp)]; exact e3
theorem Bel.keep {c c' : Nat} {m m' : Look} {st st' : Store} (hc : c ≤ c') (hm : ∀ l o, m l = some o → m' l = some o) : ∀ {K : List Pile} {P : List (Nat × Nat × Nat)} {tl : List D}, Bel c m st K P tl → (∀ i ∈ pls P, st'[i]? = st[i]?) → Bel c' m' st' K P tl
  | [], [], _, _, _ => trivial
  | k :: K, x :: P, _, h, hs => by
    refine ⟨h.1.keep hc hm fun i hi => hs i ?_, Bel.keep hc hm h.2 fun i hi => hs i ?_⟩
    · simp only [pls, List.flatMap_cons, List.mem_append]; exact .inl hi
    · simp only [pls, List.flatMap_cons, List.mem_append]; exact .inr hi
  | [], _ :: _, _, h, _ => h.elim
  | _ :: _, [], _, h, _ => h.elim
theorem look_up {L L' : List Nat} {st st' : Store} (h : ∀ i o, i ∉ L → st[i]? = some o → i ∉ L' ∧ st'[i]? = some o) : ∀ i o, look L st i = some o → look L' st' i = some o := fun i o e => by
  unfold look at e ⊢
  split at e
  · cases e
  · rename_i hi
    obtain ⟨h1, h2⟩ := h i o hi e
    rw [if_neg h1]
    exact h2
theorem look_lk {L : List Nat} {st : Store} : ∀ i o, look L st i = some o → lk st i = some o := fun i o e => by
  unfold look at e
  split at e
  · cases e
  · exact e
theorem look_out {L : List Nat} {st : Store} {i : Nat} {o : O} (h : i ∉ L) (e : st[i]? = some o) : look L st i = some o := by
  unfold look
  rw [if_neg h]
  exact e
theorem StE.mono {c c' b : Nat} {st : Store} {p0 l : Nat} {K : List Pile} {acc : List D} (h : StE c b st p0 l K acc) (hc : c ≤ c') : StE c' b st p0 l K acc := by
  obtain ⟨P, L, rs, h1, hb, h2, h3, h4, h5, h6, h7, h8⟩ := h
  exact ⟨P, L, rs, h1, hb, h2, h3, h4, h5.keep hc (fun _ _ e => e) fun _ _ => rfl, h6, h7, by omega⟩
theorem StR.mono {c c' b : Nat} {st : Store} {p0 l r q v : Nat} {K : List Pile} {acc ps : List D} {nm : Ch} (h : StR c b st p0 l r q K acc nm v ps) (hc : c ≤ c') : StR c' b st p0 l r q K acc nm v ps := by
  obtain ⟨P, L, h1, hb, h2, h3, h4, h5⟩ := h
  exact ⟨P, L, h1, hb, h2, h3, h4, h5.keep hc (fun _ _ e => e) fun _ _ => rfl⟩
/-- a record that is ready -/
theorem StR.done {c b : Nat} {st : Store} {p0 l r q v : Nat} {K : List Pile} {acc ps : List D} {nm : Ch} (hc : c ≤ 20000) (h : StR c b st p0 l r q K acc nm v ps) : StE (c + 1) b st p0 l K (acc ++ [rcd nm v ps]) := by
  obtain ⟨P, L, rfl, hb, h2, h3, h4, ⟨rs, ds, e1, e2, e3, e4, e5, e6, e7⟩, h6⟩ := h
  have hm : ∀ i o, look (p0 :: l :: r :: q :: pls P) st i = some o → look (p0 :: l :: pls P) st i = some o := look_up fun i o hi e => by
    simp only [List.mem_cons, not_or] at hi ⊢
    exact ⟨⟨hi.1, hi.2.1, hi.2.2.2.2⟩, e⟩
  simp only [List.nodup_cons, List.mem_cons, not_or] at h2
  have nr : r ∉ p0 :: l :: pls P := by
    simp only [List.mem_cons, not_or]
    exact ⟨fun e => h2.1.2.1 e.symm, fun e => h2.2.1.1 e.symm, h2.2.2.1.2⟩
  have nq : q ∉ p0 :: l :: pls P := by
    simp only [List.mem_cons, not_or]
    exact ⟨fun e => h2.1.2.2.1 e.symm, fun e => h2.2.1.2.1 e.symm, h2.2.2.2.1⟩
  refine ⟨P, _, rs ++ [.ref r], rfl, fun i hi => hb i (by simp only [List.mem_cons] at hi ⊢; rcases hi with h | h | h <;> simp [h]), ?_, h3, h4, h6.keep (by omega) hm fun _ _ => rfl, e1, ?_, by simp only [List.length_append, List.length_cons, List.length_nil]; omega⟩
  · simp only [List.nodup_cons, List.mem_cons, not_or]
    exact ⟨⟨h2.1.1, h2.1.2.2.2⟩, h2.2.1.2.2, h2.2.2.2.2⟩
  · refine mapO_app (fzRs_mono hm e4) (mapO_one ?_)
    refine fzR_mk (look_out nr e2) (look_out nq ?_) (by omega : ds.length ≤ 20000) (frzs_mono hm e5)
    rw [e3, List.append_nil]
theorem dropL {l : Nat} {xs : List Nat} : ((l :: xs).reverse.map D.ref).dropLast = xs.reverse.map D.ref := by
  rw [List.reverse_cons, List.map_append, List.map_cons, List.map_nil, List.dropLast_concat]
theorem lastL {l : Nat} {xs : List Nat} : ((l :: xs).reverse.map D.ref).getLast? = some (.ref l) := by
  rw [List.reverse_cons, List.map_append, List.map_cons, List.map_nil, List.getLast?_concat]
/-- a piece that is ready -/
theorem StE.pop {c b : Nat} {st : Store} {p0 l : Nat} {k : Pile} {K : List Pile} {acc : List D} (hc : c ≤ 20000) (h : StE c b st p0 l (k :: K) acc) : ∃ l' r' q' xs, st[p0]? = some (.lst (xs ++ [.ref l])) ∧ xs.length = K.length + 1 ∧ b ≤ p0 ∧
    StR (c + 1) b (st.set p0 (.lst xs)) p0 l' r' q' K k.1 k.2.1 k.2.2.1 (k.2.2.2 ++ [.tup acc]) := by
  obtain ⟨P, L, rs, rfl, hb, h2, h3, h4, h5, h6, h7, h8⟩ := h
  cases P with
  | nil => exact h5.elim
  | cons x P =>
    obtain ⟨l', r', q'⟩ := x
    obtain ⟨⟨rs', ds, e1, e2, e3, e4, e5, e6, e7⟩, h9⟩ := h5
    dsimp only at e1 e2 e3 e4 e5 e6 e7
    have hp : pls ((l', r', q') :: P) = l' :: r' :: q' :: pls P := rfl
    rw [hp] at h2
    have hnd := h2
    simp only [List.nodup_cons, List.mem_cons, not_or] at h2
    have ep : (l :: List.map (fun x => x.1) ((l', r', q') :: P)) = l :: (l' :: P.map (·.1)) := rfl
    unfold PileL at h4
    rw [ep, List.reverse_cons, List.map_append, List.map_cons, List.map_nil] at h4
    have hPl := h9.len
    have hm : ∀ i o, look (p0 :: l :: l' :: r' :: q' :: pls P) st i = some o → look (p0 :: l' :: r' :: q' :: pls P) (st.set p0 (.lst ((l' :: P.map (·.1)).reverse.map .ref))) i = some o := look_up fun i o hi e => by
      simp only [List.mem_cons, not_or] at hi ⊢
      exact ⟨⟨hi.1, hi.2.2.1, hi.2.2.2.1, hi.2.2.2.2.1, hi.2.2.2.2.2⟩, by rw [get_ne e (fun z => hi.1 z.symm)]⟩
    refine ⟨l', r', q', _, h4, by simp [hPl], hb p0 (by simp), P, _, rfl, fun i hi => hb i (by simp only [hp, List.mem_cons] at hi ⊢; rcases hi with h | h | h | h | h <;> simp [h]), ?_, by simp only [List.length_cons] at h3; omega, get_set h4, ⟨rs', ds ++ [.ref l], ?_, ?_, ?_, fzRs_mono hm e4, ?_, by omega, ?_⟩, h9.keep (by omega) hm fun i hi => ?_⟩
    · simp only [List.nodup_cons, List.mem_cons, not_or]
      exact ⟨⟨h2.1.2.1, h2.1.2.2.1, h2.1.2.2.2.1, h2.1.2.2.2.2⟩, h2.2.2⟩
    · exact get_ne e1 fun z => h2.1.2.1 z
    · exact get_ne e2 fun z => h2.1.2.2.1 z
    · rw [List.append_nil]
      exact get_ne e3 fun z => h2.1.2.2.2.1 z
    · refine mapO_app (frzs_mono hm e5) (mapO_one ?_)
      have nl : l ∉ p0 :: l' :: r' :: q' :: pls P := by
        simp only [List.mem_cons, not_or]
        exact ⟨fun z => h2.1.1 z.symm, h2.2.1.1, h2.2.1.2.1, h2.2.1.2.2.1, h2.2.1.2.2.2⟩
      have en : 39 - K.length = (39 - (k :: K).length) + 1 := by simp only [List.length_cons] at h3 ⊢; omega
      rw [en]
      exact frz_mk (look_out nl (get_ne h6 fun z => h2.1.1 z)) (by omega) (fzRs_mono hm h7)
    · simp only [List.length_append, List.length_cons, List.length_nil]; omega
    · rw [List.getElem?_set_ne]
      intro z
      rw [← z] at hi
      exact h2.1.2.2.2.2 hi
/-- a record begins -/
theorem StE.rcd {c b : Nat} {st : Store} {p0 l v : Nat} {nm : Ch} {K : List Pile} {acc : List D} (h : StE c b st p0 l K acc) : ∃ xs rs, st[p0]? = some (.lst (xs ++ [.ref l])) ∧ st[l]? = some (.lst rs) ∧ rs.length ≤ c ∧ b ≤ l ∧
    StR c b (((st ++ [O.lst []]) ++ [O.lst [D.str (tx nm), .int v, .ref st.length]]).set l (.lst (rs ++ [.ref (st.length + 1)]))) p0 l (st.length + 1) st.length K acc nm v [] := by
  obtain ⟨P, L, rs, rfl, hb, h2, h3, h4, h5, h6, h7, h8⟩ := h
  have hlt : ∀ i ∈ p0 :: l :: pls P, i < st.length := fun i hi => by
    simp only [List.mem_cons] at hi
    rcases hi with rfl | rfl | hi
    · exact (List.getElem?_eq_some_iff.mp h4).1
    · exact (List.getElem?_eq_some_iff.mp h6).1
    · exact h5.lt i hi
  have hnd := h2
  simp only [List.nodup_cons, List.mem_cons, not_or] at h2
  have keep : ∀ i o, i ≠ l → st[i]? = some o → (((st ++ [O.lst []]) ++ [O.lst [D.str (tx nm), .int v, .ref st.length]]).set l (.lst (rs ++ [.ref (st.length + 1)])))[i]? = some o := fun i o hi e => get_ne (get_app (get_app e)) fun z => hi z.symm
  have hm : ∀ i o, look (p0 :: l :: pls P) st i = some o → look (p0 :: l :: (st.length + 1) :: st.length :: pls P) (((st ++ [O.lst []]) ++ [O.lst [D.str (tx nm), .int v, .ref st.length]]).set l (.lst (rs ++ [.ref (st.length + 1)]))) i = some o := look_up fun i o hi e => by
    have hi' : i < st.length := (List.getElem?_eq_some_iff.mp e).1
    simp only [List.mem_cons, not_or] at hi ⊢
    exact ⟨⟨hi.1, hi.2.1, by omega, by omega, hi.2.2⟩, keep i o hi.2.1 e⟩
  have h4' := h4
  unfold PileL at h4'
  rw [List.reverse_cons, List.map_append, List.map_cons, List.map_nil] at h4'
  refine ⟨_, rs, h4', h6, h8, hb l (by simp), P, _, rfl, fun i hi => ?_, ?_, h3, keep _ _ h2.1.1 h4, ⟨rs, [], ?_, ?_, ?_, fzRs_mono hm h7, rfl, h8, Nat.zero_le _⟩, h5.keep (Nat.le_refl _) hm fun i hi => ?_⟩
  · simp only [List.mem_cons] at hi
    have a := hlt l (by simp)
    have a2 := hb l (by simp)
    rcases hi with h | h | h | h | h
    · exact hb i (by simp [h])
    · exact hb i (by simp [h])
    · omega
    · omega
    · exact hb i (by simp [h])
  · have a := hlt p0 (by simp)
    have b := hlt l (by simp)
    have d : ∀ i ∈ pls P, i < st.length := fun i hi => hlt i (by simp [hi])
    simp only [List.nodup_cons, List.mem_cons, not_or]
    refine ⟨⟨h2.1.1, by omega, by omega, h2.1.2⟩, ⟨by omega, by omega, h2.2.1⟩, ⟨by omega, fun z => ?_⟩, fun z => ?_, h2.2.2⟩
    · have := d _ z; omega
    · have := d _ z; omega
  · exact get_set (get_app (get_app h6))
  · have : (((st ++ [O.lst []]) ++ [O.lst [D.str (tx nm), .int v, .ref st.length]]))[st.length + 1]? = some (.lst [.str (tx nm), .int v, .ref st.length]) := by
      have e : st.length + 1 = (st ++ [O.lst []]).length := by simp
      rw [e]
      exact get_new
    exact get_ne this (by have := hlt l (by simp); show l ≠ st.length + 1; omega)
  · exact get_ne (get_app get_new) (by have := hlt l (by simp); show l ≠ st.length; omega)
  · have a := hlt i (by simp [hi])
    have e : ∃ o, st[i]? = some o := ⟨_, List.getElem?_eq_getElem a⟩
    obtain ⟨o, e⟩ := e
    rw [e]
    exact keep i o (fun z => h2.2.1 (by rw [← z]; exact hi)) e
/-- a piece begins -/
theorem StR.open {c b : Nat} {st : Store} {p0 l r q v : Nat} {nm : Ch} {K : List Pile} {acc ps : List D} (hK : K.length < 30) (h : StR c b st p0 l r q K acc nm v ps) : ∃ xs rs ds, st[p0]? = some (.lst (xs ++ [.ref l])) ∧ xs.length = K.length ∧ st[l]? = some (.lst (rs ++ [.ref r])) ∧ st[r]? = some (.lst [.str (tx nm), .int v, .ref q]) ∧ st[q]? = some (.lst ds) ∧ ds.length ≤ c ∧ p0 ≠ q ∧ b ≤ q ∧ b ≤ p0 ∧
    StE c b (((st ++ [O.lst []]).set q (.lst (ds ++ [.ref st.length]))).set p0 (.lst ((xs ++ [.ref l]) ++ [.ref st.length]))) p0 st.length ((acc, nm, v, ps) :: K) [] := by
  obtain ⟨P, L, rfl, hb, h2, h3, h4, ⟨rs, ds, e1, e2, e3, e4, e5, e6, e7⟩, h6⟩ := h
  have h4' := h4
  unfold PileL at h4'
  rw [List.reverse_cons, List.map_append, List.map_cons, List.map_nil] at h4'
  rw [List.append_nil] at e3
  dsimp only at e1 e2 e3 e4 e5 e6 e7
  have hPl := h6.len
  have hnd := h2
  simp only [List.nodup_cons, List.mem_cons, not_or] at h2
  have l1 := (List.getElem?_eq_some_iff.mp h4).1
  have l2 := (List.getElem?_eq_some_iff.mp e1).1
  have l3 := (List.getElem?_eq_some_iff.mp e2).1
  have l4 := (List.getElem?_eq_some_iff.mp e3).1
  have d : ∀ i ∈ pls P, i < st.length := h6.lt
  generalize hst' : (((st ++ [O.lst []]).set q (.lst (ds ++ [.ref st.length]))).set p0 (.lst (((P.map (·.1)).reverse.map D.ref ++ [.ref l]) ++ [.ref st.length]))) = st'
  have keep : ∀ i o, i ≠ p0 → i ≠ q → st[i]? = some o → st'[i]? = some o := fun i o h1 h2 e => by rw [← hst']; exact get_ne (get_ne (get_app e) fun z => h2 z.symm) fun z => h1 z.symm
  have hm : ∀ i o, look (p0 :: l :: r :: q :: pls P) st i = some o → look (p0 :: st.length :: l :: r :: q :: pls P) st' i = some o := look_up fun i o hi e => by
    have hi' : i < st.length := (List.getElem?_eq_some_iff.mp e).1
    simp only [List.mem_cons, not_or] at hi ⊢
    exact ⟨⟨hi.1, by omega, hi.2⟩, keep i o hi.1 hi.2.2.2.1 e⟩
  refine ⟨_, rs, ds, h4', by simp [hPl], e1, e2, e3, e7, h2.1.2.2.1, hb q (by simp), hb p0 (by simp), ?_⟩
  rw [hst']
  refine ⟨(l, r, q) :: P, _, [], rfl, fun i hi => ?_, ?_, by simp only [List.length_cons]; omega, ?_, ⟨⟨rs, ds, keep _ _ (fun z => h2.1.1 z.symm) h2.2.1.2.1 e1, keep _ _ (fun z => h2.1.2.1 z.symm) h2.2.2.1.1 e2, ?_, fzRs_mono hm e4, frzs_mono hm e5, e6, e7⟩, h6.keep (Nat.le_refl _) hm fun i hi => ?_⟩, ?_, rfl, Nat.zero_le _⟩
  · have hi : i ∈ p0 :: st.length :: l :: r :: q :: pls P := hi
    simp only [List.mem_cons] at hi
    have a2 := hb l (by simp)
    rcases hi with h | h | h | h | h | h
    · exact hb i (by simp [h])
    · omega
    · exact hb i (by simp [h])
    · exact hb i (by simp [h])
    · exact hb i (by simp [h])
    · exact hb i (by simp [h])
  · show (p0 :: st.length :: l :: r :: q :: pls P).Nodup
    simp only [List.nodup_cons, List.mem_cons, not_or]
    exact ⟨⟨by omega, h2.1⟩, ⟨by omega, by omega, by omega, fun z => by have := d _ z; omega⟩, h2.2⟩
  · unfold PileL
    rw [← hst', get_set (get_ne (get_app h4) fun z => h2.1.2.2.1 z.symm)]
    simp
  · rw [← hst']
    exact get_ne (get_set (get_app e3)) h2.1.2.2.1
  · have a := d i hi
    obtain ⟨o, e⟩ : ∃ o, st[i]? = some o := ⟨_, List.getElem?_eq_getElem a⟩
    rw [e]
    exact keep i o (fun z => h2.1.2.2.2 (by rw [← z]; exact hi)) (fun z => h2.2.2.2.1 (by rw [← z]; exact hi)) e
  · rw [← hst']
    exact get_ne (get_ne get_new (by show q ≠ _; omega)) (by show p0 ≠ _; omega)
/-- all is read -/
theorem StE.end_ {c b : Nat} {st : Store} {p0 l : Nat} {acc : List D} {Q : D → Store → Prop} (hc : c ≤ 20000) (h : StE c b st p0 l [] acc) (q : ∀ st', App st st' → Q (.tup acc) st') : Ev (F__law_frozen 60 [.ref l] st) Q := by
  obtain ⟨P, L, rs, rfl, hb, h2, h3, h4, h5, h6, h7, h8⟩ := h
  obtain ⟨k, hk1, hk2⟩ : ∃ k, 40 ≤ k ∧ k = 60 := ⟨60, by decide, rfl⟩
  rw [← hk2]
  exact law_frozen (n := 39 + 1) (by omega) (frz_mk h6 (by omega) (fzRs_mono look_lk h7)) q
theorem StE.piles {c b : Nat} {st : Store} {p0 l : Nat} {K : List Pile} {acc : List D} (h : StE c b st p0 l K acc) : ∃ xs, st[p0]? = some (.lst (xs ++ [.ref l])) ∧ xs.length = K.length ∧ K.length ≤ 30 := by
  obtain ⟨P, L, rs, h1, hb, h2, h3, h4, h5, h6, h7, h8⟩ := h
  unfold PileL at h4
  rw [List.reverse_cons, List.map_append, List.map_cons, List.map_nil] at h4
  have := h5.len
  exact ⟨_, h4, by simp [this], h3⟩
theorem StR.piles {c b : Nat} {st : Store} {p0 l r q v : Nat} {nm : Ch} {K : List Pile} {acc ps : List D} (h : StR c b st p0 l r q K acc nm v ps) : ∃ xs, st[p0]? = some (.lst (xs ++ [.ref l])) ∧ xs.length = K.length ∧ K.length ≤ 30 := by
  obtain ⟨P, L, h1, hb, h2, h3, h4, h5⟩ := h
  unfold PileL at h4
  rw [List.reverse_cons, List.map_append, List.map_cons, List.map_nil] at h4
  have := h5.2.len
  exact ⟨_, h4, by simp [this], h3⟩
theorem StE.new {st : Store} : StE 0 st.length ((st ++ [.lst []]) ++ [.lst [.ref st.length]]) (st.length + 1) st.length [] [] := by
  have e1 : (st ++ [O.lst []])[st.length]? = some (.lst []) := get_new
  have e2 : ((st ++ [O.lst []]) ++ [O.lst [.ref st.length]])[st.length + 1]? = some (.lst [.ref st.length]) := by
    have e : st.length + 1 = (st ++ [O.lst []]).length := by simp
    rw [e]
    exact get_new
  refine ⟨[], _, [], rfl, fun i hi => ?_, ?_, by simp, e2, trivial, get_app e1, rfl, Nat.le_refl _⟩
  · simp only [pls, List.flatMap_nil, List.mem_cons, List.not_mem_nil, or_false] at hi
    omega
  · simp [pls]
end Mi
set_option Elab.async false
set_option linter.all false
set_option maxRecDepth 100000
set_option maxHeartbeats 1000000
/-! Qk: the law's own reader is the machine. -/
namespace Mi
open PySem
theorem o_last {l : Nat} {xs : List D} {x : D} {st : Store} {Q : D → Store → Prop} (h : st[l]? = some (.lst (xs ++ [x]))) : EvO (ixF (.ref l) (.int (-1)) st) Q = Q x st := by
  refine o_lst h ?_
  have e : L2.ixN (xs.length + 1) (-1) = some xs.length := by
    unfold L2.ixN
    rw [if_neg (by omega), if_pos (by omega)]
    congr 1
    omega
  unfold L2.atI
  rw [List.length_append, List.length_cons, List.length_nil, e, Option.bind_some, List.getElem?_concat_length]
theorem o_neg1 {st : Store} : negF (.int 1) st = some (.int (-1), st) := rfl
theorem o_isN {st : Store} {Q : D → Store → Prop} : EvO (isNF .non .non st) Q = Q (.bl true) st := rfl
theorem o_isN_tup {ds : List D} {st : Store} {Q : D → Store → Prop} : EvO (isNF (.tup ds) .non st) Q = Q (.bl false) st := rfl
theorem law_judged {T : Ch} {st : Store} {Q : D → Store → Prop} (hl : T.length ≤ 4000) (q : ∀ st', App st st' → Q (told (judge T)) st') : Ev (F__law_judged [.str (tx T)] st) Q := by
  have fit : (tx T).length ≤ LIM := by rw [tx_len]; show _ ≤ 16777216; omega
  simp only [F__law_judged, ev_run, evs_nil, evs_seq, evs_ret, evs_retN, evs_expr, evs_if, evs_set, evs_par2, evs_par3, evs_sub, evs_match, evs_mnil, evs_mcons, evs_for, ev_c, ev_v, ev_op, ev_un, ev_val, ev_bl, ev_tnot, ev_tand, ev_tor, ev_not, ev_and, ev_or, ev_if, ev_chain, ev_nil, ev_cons, ev_b, ev_call, ev_callK, ev_none, ev_some, ev_sl, ev_mt, ev_knil, ev_kcons, ev_dic, ev_iseq, ev_lc, ev_yes, ev_range1, ev_enum, ev_ok, ev_okX, evs_raise, ev_inRg, List.map_cons, List.map_nil, List.length_cons, List.length_nil, List.replicate, List.cons_append, List.nil_append, List.getElem?_cons_zero, List.getElem?_cons_succ, List.set_cons_zero, List.set_cons_succ]
  rw [o_mkTup (by show 2 ≤ 16777216; decide), o_mkLst (by decide), o_mkLst (by show 1 ≤ 16777216; decide), s_dash, o_eqS, ev_bl]
  have ap0 : App st ((st ++ [.lst []]) ++ [.lst [.ref st.length]]) := (App.one _).trans (App.one _)
  by_cases h : T = [45]
  · rw [decide_eq_true h, if_pos rfl, o_mkTup (by decide), o_mkTup (by show 2 ≤ 16777216; decide)]
    have e : judge T = some [] := if_pos h
    rw [e] at q
    exact q _ ap0
  rw [decide_eq_false h, if_neg (by decide)]
  have ej : judge T = mE [] [] T := if_neg h
  rw [ej] at q
  have el : (st ++ [O.lst []]).length = st.length + 1 := by simp
  rw [el]
  generalize hR : mE [] [] T = R at q
  refine EvS.mono (E := { nx := fun p' s' => App st s' ∧ R = none ∧ ∃ r, p' = some (D.str (tx T)) :: some (D.tup [.str "text", .int 0]) :: r, rt := Q }) (evs_wh (fun m p s' => ∃ o4 o5 o6 o7 pre s K acc l, T = pre ++ s ∧ s.length = m ∧ p = [some (.str (tx T)), some (.tup [.str "text", .int 0]), some (.ref (st.length + 1)), some (.int (pre.length : Nat)), o4, o5, o6, o7] ∧ App st s' ∧ StE (2 * pre.length) st.length s' (st.length + 1) l K acc ∧ mE K acc s = R) (fun m p s' hI => ?_) 5000 T.length _ _ (by omega) ⟨none, none, none, none, [], T, [], [], st.length, rfl, rfl, rfl, ap0, StE.new, hR⟩) (fun p s' hN => ?_) (fun _ _ h => h) (fun _ _ h => h.elim) (fun _ _ h => h.elim) (fun _ _ _ h => h.elim)
  · obtain ⟨o4, o5, o6, o7, pre, s, K, acc, l, hT, rfl, rfl, ap, hS, hm⟩ := hI
    generalize hS0 : s.length = S at *
    have hsl : pre.length + s.length ≤ 4000 := by have := congrArg List.length hT; simp only [List.length_append] at this; omega
    simp only [ev_run, evs_nil, evs_seq, evs_ret, evs_retN, evs_expr, evs_if, evs_set, evs_par2, evs_par3, evs_sub, evs_match, evs_mnil, evs_mcons, evs_for, ev_c, ev_v, ev_op, ev_un, ev_val, ev_bl, ev_tnot, ev_tand, ev_tor, ev_not, ev_and, ev_or, ev_if, ev_chain, ev_nil, ev_cons, ev_b, ev_call, ev_callK, ev_none, ev_some, ev_sl, ev_mt, ev_knil, ev_kcons, ev_dic, ev_iseq, ev_lc, ev_yes, ev_range1, ev_enum, ev_ok, ev_okX, evs_raise, ev_inRg, List.map_cons, List.map_nil, List.length_cons, List.length_nil, List.replicate, List.cons_append, List.nil_append, List.getElem?_cons_zero, List.getElem?_cons_succ, List.set_cons_zero, List.set_cons_succ]
    rw [o_isi (k := "str") rfl, show isTy "str" "str" = true by decide, ev_bl, if_pos rfl, o_lenS fit, o_cmp, ev_bl]
    have eT : ((tx T).length : Int) = ((pre.length : Nat) : Int) + (s.length : Nat) := by rw [tx_len, hT]; simp only [List.length_append]; omega
    by_cases hs : s = []
    · subst hs
      rw [decide_eq_false (by rw [eT]; simp), if_neg (by decide)]
      refine ⟨ap, ?_, _, rfl⟩
      rw [← hm]
      exact mE_none rfl
    have hsp : 0 < s.length := List.length_pos_iff.mpr hs
    rw [decide_eq_true (by rw [eT]; omega), if_pos rfl]
    refine Ev.toX (law_head hT hl ?_)
    unfold hdD
    cases hh : hd s with
    | none =>
      dsimp only
      rw [o_isN, ev_bl, if_pos rfl]
      have e : R = none := by rw [← hm]; exact mE_none hh
      subst e
      exact q s' ap
    | some x =>
      obtain ⟨nm, v, r⟩ := x
      dsimp only
      rw [o_isN_tup, ev_bl, if_neg (by decide)]
      have hm2 : mR K acc nm v [] r = R := by rw [← hm]; exact (mE_some hh).symm
      obtain ⟨d, e1, e2, e3, e4, e5, e6, e7⟩ := hd_some hh
      dsimp only at e1 e2 e3 e4 e5 e6 e7
      obtain ⟨xs, rs, g1, g2, g3, g4, hS2⟩ := hS.rcd (nm := nm) (v := v)
      have gl : 2 * pre.length < 16777216 := by omega
      have r7 : nm.length + 2 + r.length = s.length := by rw [e1]; simp only [List.length_append, List.length_cons]; omega
      have x2 : (s' ++ [O.lst []]).length = s'.length + 1 := by simp
      rw [o_neg1, evo_some, o_last g1]
      refine ⟨ty_lst g2, ?_⟩
      rw [o_tup (d := .str (tx nm)) rfl, o_tup (d := .int v) rfl, o_mkLst (by decide), o_mkLst (by show 3 ≤ 16777216; decide), x2, o_app (get_app (get_app g2)) (by show _ < 16777216; omega)]
      rw [o_tup (d := .str (tx nm)) rfl, o_lenS (by rw [tx_len]; show _ ≤ 16777216; omega), tx_len, o_add, o_add]
      have ap2 : App st (((s' ++ [O.lst []]) ++ [O.lst [D.str (tx nm), .int v, .ref s'.length]]).set l (.lst (rs ++ [.ref (s'.length + 1)]))) := (ap.trans ((App.one _).trans (App.one _))).put g4
      have ea : ((pre.length : Nat) : Int) + (nm.length : Nat) + 2 = (((pre ++ (nm ++ [46, d])).length : Nat) : Int) := by simp only [List.length_append, List.length_cons, List.length_nil]; omega
      rw [ea]
      refine evs_wh (fun m p s2 => ∃ o4 b o6 o7 pre2 s, T = pre2 ++ s ∧ s.length = m ∧ s.length < S ∧ p = [some (.str (tx T)), some (.tup [.str "text", .int 0]), some (.ref (st.length + 1)), some (.int (pre2.length : Nat)), o4, some (.bl b), o6, o7] ∧ App st s2 ∧
        ((b = true ∧ ∃ l r q K acc nm v ps, StR (2 * pre2.length) st.length s2 (st.length + 1) l r q K acc nm v ps ∧ mR K acc nm v ps s = R) ∨
         (b = true ∧ ∃ l k K u, s = 93 :: u ∧ StE (2 * pre2.length) st.length s2 (st.length + 1) l (k :: K) [] ∧ mR K k.1 k.2.1 k.2.2.1 (k.2.2.2 ++ [.tup []]) u = R) ∨
         (b = false ∧ ∃ l K acc, StE (2 * pre2.length) st.length s2 (st.length + 1) l K acc ∧ mE K acc s = R))) (fun m p s2 hI => ?_) 5000 r.length _ _ (by omega)
        ⟨_, true, _, _, pre ++ (nm ++ [46, d]), r, by rw [hT, e1]; simp, rfl, by omega, rfl, ap2, .inl ⟨rfl, l, _, _, K, acc, nm, v, [], hS2.mono (by simp only [List.length_append]; omega), hm2⟩⟩
      clear hS hS2 hm hm2 ap2 ea r7 gl g1 g2 g3 g4 e1 e2 e3 e4 e5 e6 e7 hT hh hsp x2 eT hS0 hsl
      obtain ⟨o4, b, o6, o7, pre, s, hT, hm0, hlt, rfl, ap, hI⟩ := hI
      have hsl : pre.length + s.length ≤ 4000 := by have := congrArg List.length hT; simp only [List.length_append] at this; omega
      simp only [ev_run, evs_nil, evs_seq, evs_ret, evs_retN, evs_expr, evs_if, evs_set, evs_par2, evs_par3, evs_sub, evs_match, evs_mnil, evs_mcons, evs_for, ev_c, ev_v, ev_op, ev_un, ev_val, ev_bl, ev_tnot, ev_tand, ev_tor, ev_not, ev_and, ev_or, ev_if, ev_chain, ev_nil, ev_cons, ev_b, ev_call, ev_callK, ev_none, ev_some, ev_sl, ev_mt, ev_knil, ev_kcons, ev_dic, ev_iseq, ev_lc, ev_yes, ev_range1, ev_enum, ev_ok, ev_okX, evs_raise, ev_inRg, List.map_cons, List.map_nil, List.length_cons, List.length_nil, List.replicate, List.cons_append, List.nil_append, List.getElem?_cons_zero, List.getElem?_cons_succ, List.set_cons_zero, List.set_cons_succ]
      rcases hI with ⟨rfl, l, r, q0, K, acc, nm, v, ps, hS, hm⟩ | ⟨rfl, l, k, K, u, rfl, hS, hm⟩ | ⟨rfl, l, K, acc, hS, hm⟩
      · obtain ⟨xs, g1, g2, g3⟩ := hS.piles
        have c1 : L2.cutS (tx T) (some ((pre.length : Nat) : Int)) (some (((pre.length : Nat) : Int) + 1)) = tx (s.take 1) := by
          rw [hT]
          exact cut1 rfl rfl
        have gl : (xs ++ [D.ref l]).length = K.length + 1 := by simp [g2]
        rw [if_pos rfl, o_add]
        dsimp only
        rw [o_slS fit, c1, o_add, s_lb, o_eqS, ev_bl]
        -- what ends the reading
        have bad : R = none → ∀ st', App st st' → Q (.tup [.str "text", .int 0]) st' := fun e st' ap => by subst e; exact q st' ap
        cases s with
        | nil =>
          rw [if_neg (by decide), if_neg (by decide), s_rb, o_eqS, ev_bl, if_neg (by decide), if_neg (by decide), s_sp, o_eqS, ev_bl, if_neg (by decide), s_nil, o_eqS, ev_bl, if_pos (by decide), o_lenL g1, o_eqI, ev_bl, gl]
          rw [mR_nil] at hm
          by_cases hK : K = []
          · subst hK
            rw [if_pos (by decide)]
            rw [if_pos rfl] at hm
            have hS2 := hS.done (by omega)
            obtain ⟨xs2, g4, g5, _⟩ := hS2.piles
            obtain rfl : xs2 = [] := List.length_eq_zero_iff.mp g5
            rw [o_lst g4 (d := .ref l) rfl]
            refine Ev.toX (hS2.end_ (by omega) fun st' ap' => ?_)
            rw [o_mkTup (by show 2 ≤ 16777216; decide)]
            have z := q st' (ap.trans ap')
            rw [← hm] at z
            exact z
          · rw [if_neg (by have : 0 < K.length := List.length_pos_iff.mpr hK
                           have : ((K.length + 1 : Nat) : Int) ≠ 1 := by omega
                           rw [beq_eq_false_iff_ne.mpr this]; decide)]
            rw [if_neg hK] at hm
            exact bad hm.symm s2 ap
        | cons c r2 =>
          have tk : (c :: r2).take 1 = [c] := rfl
          have ep : ((pre.length : Nat) : Int) + 1 = (((pre ++ [c]).length : Nat) : Int) := by simp
          have hT2 : T = (pre ++ [c]) ++ r2 := by rw [hT]; simp
          simp only [List.length_cons] at hsl
          rw [tk, ep]
          simp only [List.length_cons] at hm0 hlt
          have pl1 : (pre ++ [c]).length = pre.length + 1 := by simp
          by_cases h91 : c = 91
          · subst h91
            rw [if_pos (by decide), o_lenL g1, o_cmp, ev_bl, gl]
            by_cases hK : K.length < 30
            · rw [if_pos (by rw [decide_eq_true_eq]; omega), o_mkLst (by decide)]
              obtain ⟨xs2, rs, ds, g4, g5, g6, g7, g8, g9, g10, g11, g12, hS2⟩ := hS.open hK
              rw [o_neg1, evo_some, o_last (get_app g4), o_neg1, evo_some, o_last (get_app g6), o_lst (get_app g7) (d := .ref q0) rfl]
              refine ⟨ty_lst (get_app g8), ?_⟩
              rw [o_app (get_app g8) (by show _ < 16777216; omega)]
              have g4' : ((s2 ++ [O.lst []]).set q0 (.lst (ds ++ [.ref s2.length])))[st.length + 1]? = some (.lst (xs2 ++ [.ref l])) := get_ne (get_app g4) fun z => g10 z.symm
              refine ⟨ty_lst g4', ?_⟩
              rw [o_app g4' (by simp only [List.length_append, List.length_cons, List.length_nil]; show _ < 16777216; omega)]
              dsimp only
              rw [o_add]
              dsimp only
              have c2 : L2.cutS (tx T) (some (((pre ++ [91]).length : Nat) : Int)) (some ((((pre ++ [91]).length : Nat) : Int) + 1)) = tx (r2.take 1) := by
                rw [hT2]
                exact cut1 rfl rfl
              rw [o_slS fit, c2, s_rb, o_eqS, take1_is]
              have ap2 := ((ap.trans (App.one (O.lst []))).put (o := .lst (ds ++ [.ref s2.length])) g11).put (o := .lst ((xs2 ++ [.ref l]) ++ [.ref s2.length])) g12
              have hS3 := hS2.mono (c' := 2 * (pre ++ [91]).length) (by omega)
              by_cases hp : r2.head? = some 93
              · obtain ⟨u, rfl⟩ := head_cons hp
                rw [mR_open0 hK] at hm
                rw [decide_eq_true hp]
                exact ⟨(93 :: u).length, by omega, _, true, _, _, pre ++ [91], 93 :: u, hT2, rfl, by omega, rfl, ap2, .inr (.inl ⟨rfl, _, _, _, u, rfl, hS3, hm⟩)⟩
              · rw [mR_open hK hp] at hm
                rw [decide_eq_false hp]
                exact ⟨r2.length, by omega, _, false, _, _, pre ++ [91], r2, hT2, rfl, by omega, rfl, ap2, .inr (.inr ⟨rfl, _, _, _, hS3, hm⟩)⟩
            · rw [if_neg (by rw [decide_eq_true_eq]; omega)]
              rw [mR_deep hK] at hm
              rw [s_rb, o_eqS, ev_bl, if_neg (by decide), if_neg (by decide), s_sp, o_eqS, ev_bl, if_neg (by decide), s_nil, o_eqS, ev_bl, if_neg (by decide), if_neg (by decide)]
              exact bad hm.symm s2 ap
          · rw [decide_eq_false (by simpa using h91), if_neg (by decide), if_neg (by decide), s_rb, o_eqS, ev_bl]
            by_cases h93 : c = 93
            · subst h93
              rw [if_pos (by decide), o_lenL g1, o_cmp, ev_bl, gl]
              cases K with
              | nil =>
                rw [mR_close0] at hm
                rw [if_neg (by decide), s_sp, o_eqS, ev_bl, if_neg (by decide), s_nil, o_eqS, ev_bl, if_neg (by decide), if_neg (by decide)]
                exact bad hm.symm s2 ap
              | cons k K =>
                rw [mR_close] at hm
                rw [if_pos (by simp only [List.length_cons, decide_eq_true_eq]; omega)]
                refine ⟨ty_lst g1, ?_⟩
                obtain ⟨l', r', q', xs', g4, g5, g6, hS2⟩ := (hS.done (by omega)).pop (by omega)
                have g4' := g4
                rw [g1] at g4'
                obtain rfl : xs = xs' := by
                  have := O.lst.inj (Option.some.inj g4')
                  exact List.append_cancel_right this
                rw [o_pop g1 (by rw [List.getLast?_concat]), List.dropLast_concat]
                exact ⟨r2.length, by omega, _, true, _, _, pre ++ [93], r2, hT2, rfl, by omega, rfl, ap.put g6, .inl ⟨rfl, l', r', q', K, _, _, _, _, hS2.mono (by omega), hm⟩⟩
            · rw [decide_eq_false (by simpa using h93), if_neg (by decide), if_neg (by decide), s_sp, o_eqS, ev_bl]
              by_cases h32 : c = 32
              · subst h32
                rw [if_pos (by decide)]
                rw [mR_next] at hm
                exact ⟨r2.length, by omega, _, false, _, _, pre ++ [32], r2, hT2, rfl, by omega, rfl, ap, .inr (.inr ⟨rfl, _, _, _, (hS.done (by omega)).mono (by omega), hm⟩)⟩
              · rw [decide_eq_false (by simpa using h32), if_neg (by decide), s_nil, o_eqS, ev_bl, if_neg (by simp), if_neg (by decide)]
                rw [mR_odd h91 h93 h32] at hm
                exact bad hm.symm s2 ap
      · obtain ⟨xs, g1, g2, g3⟩ := hS.piles
        have c1 : L2.cutS (tx T) (some ((pre.length : Nat) : Int)) (some (((pre.length : Nat) : Int) + 1)) = tx [93] := by
          rw [hT]
          exact cut1 rfl rfl
        simp only [List.length_cons] at hsl g2 g3
        rw [if_pos rfl, o_add]
        dsimp only
        rw [o_slS fit, c1, o_add, s_lb, o_eqS, ev_bl, if_neg (by decide), if_neg (by decide), s_rb, o_eqS, ev_bl, if_pos (by decide), o_lenL g1, o_cmp, ev_bl, if_pos (by simp only [List.length_append, List.length_cons, List.length_nil, decide_eq_true_eq]; omega)]
        refine ⟨ty_lst g1, ?_⟩
        obtain ⟨l', r', q', xs', g4, g5, g6, hS2⟩ := hS.pop (by omega)
        rw [g1] at g4
        obtain rfl : xs = xs' := by
          have := O.lst.inj (Option.some.inj g4)
          exact List.append_cancel_right this
        rw [o_pop g1 (by rw [List.getLast?_concat]), List.dropLast_concat]
        have ep : ((pre.length : Nat) : Int) + 1 = (((pre ++ [93]).length : Nat) : Int) := by simp
        rw [ep]
        exact ⟨u.length, by simp only [List.length_cons] at hm0; omega, _, true, _, _, pre ++ [93], u, by rw [hT]; simp, rfl, by simp only [List.length_cons] at hlt; omega, rfl, ap.put g6, .inl ⟨rfl, l', r', q', K, _, _, _, _, hS2.mono (by simp only [List.length_append, List.length_cons, List.length_nil]; omega), hm⟩⟩
      · rw [if_neg (by decide)]
        exact ⟨s.length, hlt, o4, _, o6, o7, pre, s, K, acc, l, hT, rfl, rfl, ap, hS, hm⟩
  · obtain ⟨ap, rfl, r, rfl⟩ := hN
    exact q s' ap
end Mi
set_option Elab.async false
set_option linter.all false
set_option maxRecDepth 100000
set_option maxHeartbeats 1000000
/-! Ql: what is read is not too great. -/
namespace Mi
open PySem
abbrev VL (n w : Nat) (ds : List D) : Prop := Vls [2, 3] [] topB n w ds
def NmOk (nm : Ch) : Prop := nm.length ≤ 8 ∧ ∀ c ∈ nm, c < 128
def KOk : List Pile → Nat → Prop
  | [], _ => True
  | k :: K, w => ∃ a b w', VL (95 - 3 * K.length) a k.1 ∧ VL (93 - 3 * K.length) b k.2.2.2 ∧ NmOk k.2.1 ∧ k.2.2.1 ≤ 3 ∧ K.length ≤ 30 ∧ KOk K w' ∧ a + b + 20 + w' ≤ w
theorem rcd_ok {n b v : Nat} {nm : Ch} {ps : List D} (hn : NmOk nm) (hv : v ≤ 3) (h : VL n b ps) : Val [2, 3] [] topB (n + 2) (b + 13) (rcd nm v ps) := by
  unfold rcd
  refine (val_tup (Vls.cons (val_str (w := 8) (n := n) (fun c hc => ?_) (by rw [tx_len]; exact hn.1) (by rw [tx_len]; exact Nat.le_trans hn.1 (by decide))) (Vls.cons (val_int (w := 2) (n := n) ?_ ?_) (Vls.one (val_tup h))))).mono Bd.le (Nat.le_refl _) (by omega)
  · rw [tx_list] at hc
    exact hn.2 c hc
  · have : ((v : Int)).natAbs = v := by omega
    rw [this]
    exact Nat.lt_of_le_of_lt hv (by decide +kernel)
  · have : ((v : Int)).natAbs = v := by omega
    rw [this]
    show v < 4
    omega
theorem acc_ok {n a b v : Nat} {nm : Ch} {acc ps : List D} (hn : NmOk nm) (hv : v ≤ 3) (h1 : VL (n + 2) a acc) (h : VL n b ps) : VL (n + 2) (a + b + 14) (acc ++ [rcd nm v ps]) :=
  (h1.append (Vls.one (rcd_ok hn hv h))).mono Bd.le (Nat.le_refl _) (by omega)
theorem hd_nm {s : Ch} {x : Ch × Nat × Ch} (h : hd s = some x) : NmOk x.1 ∧ x.2.1 ≤ 3 ∧ x.2.2.length + 3 ≤ s.length := by
  obtain ⟨d, e1, e2, e3, e4, e5, e6, e7⟩ := hd_some h
  refine ⟨⟨e4, fun c hc => ?_⟩, by omega, hd_lt h⟩
  rw [e2] at hc
  have := of_decide_eq_true (nmOf_ltr c hc)
  omega
theorem mach_ok : ∀ N : Nat, (∀ (s : Ch) (K : List Pile) (acc xs : List D) (a w B : Nat), s.length ≤ N → KOk K w → VL (95 - 3 * K.length) a acc → K.length ≤ 30 → a + w + 20 * s.length ≤ B → mE K acc s = some xs → VL 95 B xs) ∧
    (∀ (s : Ch) (K : List Pile) (acc ps xs : List D) (nm : Ch) (v w B : Nat), s.length ≤ N → KOk ((acc, nm, v, ps) :: K) w → w + 20 * s.length ≤ B → mR K acc nm v ps s = some xs → VL 95 B xs) := by
  intro N
  induction N with
  | zero =>
    refine ⟨fun s K acc xs a w B hs _ _ _ _ e => ?_, fun s K acc ps xs nm v w B hs hk hw e => ?_⟩
    · have : s = [] := List.length_eq_zero_iff.mp (by omega)
      subst this
      rw [mE_none rfl] at e; cases e
    · have : s = [] := List.length_eq_zero_iff.mp (by omega)
      subst this
      rw [mR_nil] at e
      split at e
      · rename_i hK
        subst hK
        cases e
        obtain ⟨a, b, w', h1, h2, h3, h4, h5, h6, h7⟩ := hk
        exact (acc_ok (n := 93) h3 h4 h1 h2).mono Bd.le (Nat.le_refl _) (by omega)
      · cases e
  | succ N ih =>
    have hR : ∀ (s : Ch) (K : List Pile) (acc ps xs : List D) (nm : Ch) (v w B : Nat), s.length ≤ N + 1 → KOk ((acc, nm, v, ps) :: K) w → w + 20 * s.length ≤ B → mR K acc nm v ps s = some xs → VL 95 B xs := by
      intro s K acc ps xs nm v w B hs hk hw e
      have hk0 := hk
      obtain ⟨a, b, w', h1, h2, h3, h4, h5, h6, h7⟩ := hk
      dsimp only at h1 h2 h3 h4
      have en : 95 - 3 * K.length = (93 - 3 * K.length) + 2 := by omega
      have h1' := h1
      rw [en] at h1'
      cases s with
      | nil =>
        rw [mR_nil] at e
        split at e
        · rename_i hK
          subst hK
          cases e
          exact (acc_ok (n := 93) h3 h4 h1 h2).mono Bd.le (Nat.le_refl _) (by omega)
        · cases e
      | cons c r =>
        simp only [List.length_cons] at hs hw
        by_cases h91 : c = 91
        · subst h91
          by_cases hK : K.length < 30
          · by_cases hp : r.head? = some 93
            · obtain ⟨u, rfl⟩ := head_cons hp
              simp only [List.length_cons] at hs hw
              rw [mR_open0 hK] at e
              refine ih.2 u K acc _ xs nm v (w + 1) B (by omega) ⟨a, b + 1, w', h1, (h2.append (Vls.one (val_tup (n := 92 - 3 * K.length) (w := 0) Vls.nil) |>.mono Bd.le (by omega) (by omega))), h3, h4, h5, h6, ?_⟩ (by omega) e
              show a + (b + 1) + 20 + w' ≤ w + 1
              omega
            · rw [mR_open hK hp] at e
              exact ih.1 r ((acc, nm, v, ps) :: K) [] xs 0 w B (by omega) hk0 Vls.nil (by simp only [List.length_cons]; omega) (by omega) e
          · rw [mR_deep hK] at e; cases e
        · by_cases h93 : c = 93
          · subst h93
            cases K with
            | nil => rw [mR_close0] at e; cases e
            | cons k K =>
              rw [mR_close] at e
              obtain ⟨a2, b2, w2, g1, g2, g3, g4, g5, g6, g7⟩ := h6
              simp only [List.length_cons] at h1 h1' h2 h5 en
              have z := val_tup (acc_ok h3 h4 h1' h2)
              have z2 : Val [2, 3] [] topB (93 - 3 * K.length) (a + b + 14) (.tup (acc ++ [rcd nm v ps])) := z.mono Bd.le (by omega) (Nat.le_refl _)
              obtain ⟨acc2, nm2, v2, ps2⟩ := k
              exact ih.2 r K acc2 (ps2 ++ [.tup (acc ++ [rcd nm v ps])]) xs nm2 v2 w B (by omega) ⟨a2, b2 + (a + b + 14 + 1), w2, g1, g2.append (Vls.one z2), g3, g4, g5, g6, by omega⟩ (by omega) e
          · by_cases h32 : c = 32
            · subst h32
              rw [mR_next] at e
              have z := acc_ok h3 h4 h1' h2
              rw [← en] at z
              exact ih.1 r K _ xs _ w' B (by omega) h6 z h5 (by omega) e
            · rw [mR_odd h91 h93 h32] at e; cases e
    refine ⟨fun s K acc xs a w B hs hk ha hK hB e => ?_, hR⟩
    cases hh : hd s with
    | none => rw [mE_none hh] at e; cases e
    | some x =>
      rw [mE_some hh] at e
      obtain ⟨g1, g2, g3⟩ := hd_nm hh
      refine hR x.2.2 K acc [] xs x.1 x.2.1 (a + 20 + w) B (by omega) ⟨a, 0, w, ha, Vls.nil, g1, g2, hK, hk, ?_⟩ (by omega) e
      omega
theorem grow0 {st : Store} : Grow [2, 3] [] st := ⟨Nat.zero_le _, fun l o _ h => by simp at h⟩
theorem told_ok {T : Ch} {st : Store} (hl : T.length ≤ 4000) : Val [2, 3] st topB 97 90000 (told (judge T)) := by
  refine Val.grow ?_ grow0
  cases e : judge T with
  | none =>
    exact (val_tup (n := 96) (Vls.cons (val_str (z := "text") (w := 4) (n := 95) (by decide +kernel) (by decide) (by decide)) (Vls.one (val_int (w := 1) (n := 95) (i := 0) (by decide +kernel) (by decide))))).mono Bd.le (Nat.le_refl _) (by omega)
  | some xs =>
    have h : VL 95 80000 xs := by
      unfold judge at e
      split at e
      · cases e; exact Vls.nil
      · exact (mach_ok T.length).1 T [] [] xs 0 0 80000 (Nat.le_refl _) trivial Vls.nil (by decide) (by omega) e
    exact (val_tup (n := 96) (Vls.cons (val_str (z := "story") (w := 5) (n := 95) (by decide +kernel) (by decide) (by decide)) (Vls.one (val_tup h)))).mono Bd.le (Nat.le_refl _) (by omega)
theorem told0_ok {st : Store} : Val [2, 3] st topB 97 90000 (told none) := by
  refine Val.grow ?_ grow0
  exact (val_tup (n := 96) (Vls.cons (val_str (z := "text") (w := 4) (n := 95) (by decide +kernel) (by decide) (by decide)) (Vls.one (val_int (w := 1) (n := 95) (i := 0) (by decide +kernel) (by decide))))).mono Bd.le (Nat.le_refl _) (by omega)
/-- the law's own reader of what is no text -/
theorem judged_odd {x : D} {k : String} {st : Store} {Q : D → Store → Prop} (h : ∀ st', App st st' → kindD x st' = some k ∧ eqF x (.str (tx [45])) st' = some false) (hk : k ∈ kinds) (hs : k ≠ "str") (q : ∀ st', App st st' → Q (told none) st') : Ev (F__law_judged [x] st) Q := by
  simp only [F__law_judged, ev_run, evs_nil, evs_seq, evs_ret, evs_retN, evs_expr, evs_if, evs_set, evs_par2, evs_par3, evs_sub, evs_match, evs_mnil, evs_mcons, evs_for, ev_c, ev_v, ev_op, ev_un, ev_val, ev_bl, ev_tnot, ev_tand, ev_tor, ev_not, ev_and, ev_or, ev_if, ev_chain, ev_nil, ev_cons, ev_b, ev_call, ev_callK, ev_none, ev_some, ev_sl, ev_mt, ev_knil, ev_kcons, ev_dic, ev_iseq, ev_lc, ev_yes, ev_range1, ev_enum, ev_ok, ev_okX, evs_raise, ev_inRg, List.map_cons, List.map_nil, List.length_cons, List.length_nil, List.replicate, List.cons_append, List.nil_append, List.getElem?_cons_zero, List.getElem?_cons_succ, List.set_cons_zero, List.set_cons_succ]
  rw [o_mkTup (by show 2 ≤ 16777216; decide), o_mkLst (by decide), o_mkLst (by show 1 ≤ 16777216; decide), s_dash]
  have ap0 : App st ((st ++ [.lst []]) ++ [.lst [.ref st.length]]) := (App.one _).trans (App.one _)
  obtain ⟨h1, h2⟩ := h _ ap0
  rw [o_opB h2, ev_bl, if_neg (by decide)]
  have e : isTy "str" k = false := by
    unfold isTy
    rw [beq_eq_false_iff_ne.mpr hs]
    show (false || (k == "bool" && ("str" == "int"))) = false
    rw [show (("str" : String) == "int") = false by decide, Bool.and_false, Bool.or_false]
  refine evs_wh (fun m p s' => p = [some x, some (.tup [.str "text", .int 0]), some (.ref (st ++ [O.lst []]).length), some (.int 0), none, none, none, none] ∧ s' = ((st ++ [.lst []]) ++ [.lst [.ref st.length]])) (fun m p s' hI => ?_) 5000 0 _ _ (by decide) ⟨rfl, rfl⟩
  obtain ⟨rfl, rfl⟩ := hI
  simp only [ev_run, evs_nil, evs_seq, evs_ret, evs_retN, evs_expr, evs_if, evs_set, evs_par2, evs_par3, evs_sub, evs_match, evs_mnil, evs_mcons, evs_for, ev_c, ev_v, ev_op, ev_un, ev_val, ev_bl, ev_tnot, ev_tand, ev_tor, ev_not, ev_and, ev_or, ev_if, ev_chain, ev_nil, ev_cons, ev_b, ev_call, ev_callK, ev_none, ev_some, ev_sl, ev_mt, ev_knil, ev_kcons, ev_dic, ev_iseq, ev_lc, ev_yes, ev_range1, ev_enum, ev_ok, ev_okX, evs_raise, ev_inRg, List.map_cons, List.map_nil, List.length_cons, List.length_nil, List.replicate, List.cons_append, List.nil_append, List.getElem?_cons_zero, List.getElem?_cons_succ, List.set_cons_zero, List.set_cons_succ]
  rw [o_isi h1 (by decide) hk, e, ev_bl, if_neg (by decide), if_neg (by decide)]
  exact q _ ap0
end Mi
set_option Elab.async false
set_option linter.all false
set_option maxRecDepth 100000
set_option maxHeartbeats 1000000
/-! Qm: texts that are drawn: how long they are. -/
namespace Mi
open PySem
theorem Grow.put {L : List Nat} {a b : Store} (h : Grow L a b) {l : Nat} {o : O} (e : a.length ≤ l) : Grow L a (b.set l o) := by
  refine ⟨by rw [List.length_set]; exact h.1, fun i u hi hu => ?_⟩
  have hlt := (List.getElem?_eq_some_iff.mp hu).1
  rw [List.getElem?_set_ne (by omega)]
  exact h.2 i u hi hu
theorem Deck.set {st : Store} {k l : Nat} {o : O} (h : Deck st k) (hl : l ∉ [2, 3]) : Deck (st.set l o) k := by
  obtain ⟨c, m, a1, a2, a3⟩ := h
  simp only [List.mem_cons, List.not_mem_nil, or_false, not_or] at hl
  exact ⟨c, m, get_ne a1 (by omega), get_ne a2 (by omega), a3⟩
/-- a text of ASCII, at most n long -/
def As (n : Nat) (z : Str) : Prop := z.length ≤ n ∧ ∀ c ∈ z.cps.toList, c < 128
theorem As.mono {n m : Nat} {z : Str} (h : As n z) (hm : n ≤ m) : As m z := ⟨Nat.le_trans h.1 hm, h.2⟩
theorem len_app (x y : Str) : (x ++ y).length = x.length + y.length := by
  show (x.cps ++ y.cps).size = x.cps.size + y.cps.size
  exact Array.size_append
theorem list_app (x y : Str) : (x ++ y).cps.toList = x.cps.toList ++ y.cps.toList := by
  show (x.cps ++ y.cps).toList = _
  exact Array.toList_append
theorem as_app {n m : Nat} {x y : Str} (h : As n x) (h' : As m y) : As (n + m) (x ++ y) := by
  refine ⟨by rw [len_app]; exact Nat.add_le_add h.1 h'.1, fun c hc => ?_⟩
  rw [list_app] at hc
  rcases List.mem_append.mp hc with hc | hc
  · exact h.2 c hc
  · exact h'.2 c hc
theorem cut_sub {z : Str} {lo hi : Option Int} : ∃ a b, (L2.cutS z lo hi).cps.toList = (z.cps.toList.drop a).take b := by
  unfold L2.cutS
  exact ⟨_, _, rfl⟩
theorem as_cut {n : Nat} {z : Str} {lo hi : Option Int} (h : As n z) : As n (L2.cutS z lo hi) := by
  obtain ⟨a, b, e⟩ := cut_sub (z := z) (lo := lo) (hi := hi)
  constructor
  · have : (L2.cutS z lo hi).length = (L2.cutS z lo hi).cps.toList.length := rfl
    rw [this, e, List.length_take, List.length_drop]
    have hz : z.cps.toList.length = z.length := rfl
    have := h.1
    omega
  · intro c hc
    rw [e] at hc
    exact h.2 c (List.mem_of_mem_drop (List.mem_of_mem_take hc))
theorem as_to {n m : Nat} {z : Str} (h : As n z) : As m (L2.cutS z none (some (m : Nat))) := by
  obtain ⟨h1, h2⟩ := as_cut (lo := none) (hi := some ((m : Nat) : Int)) h
  refine ⟨?_, h2⟩
  show (L2.cutS z none (some ((m : Nat) : Int))).cps.toList.length ≤ m
  unfold L2.cutS
  rw [HT.sIx_nat, HT.sIx_none]
  show ((List.toArray _).toList).length ≤ m
  rw [List.length_take]
  omega
/-- words: their signs, and one more for each -/
def jl (xs : List Str) : Nat := (xs.map fun x => x.length + 1).sum
theorem jl_app (xs ys : List Str) : jl (xs ++ ys) = jl xs + jl ys := by unfold jl; rw [List.map_append, List.sum_append]
theorem jl_cons (x : Str) (ys : List Str) : jl (x :: ys) = x.length + 1 + jl ys := by unfold jl; rw [List.map_cons, List.sum_cons]
theorem jl_take (xs : List Str) (i : Nat) : jl (xs.take i) + jl (xs.drop i) = jl xs := by rw [← jl_app, List.take_append_drop]
theorem jl_drop1 (xs : List Str) (i : Nat) : jl (xs.drop (i + 1)) ≤ jl (xs.drop i) := by
  have : xs.drop (i + 1) = (xs.drop i).drop 1 := by rw [List.drop_drop]
  rw [this]
  have := jl_take (xs.drop i) 1
  omega
theorem jl_get {xs : List Str} {x : Str} (h : x ∈ xs) : x.length + 1 ≤ jl xs := by
  induction xs with
  | nil => cases h
  | cons y ys ih =>
    rw [jl_cons]
    rcases List.mem_cons.mp h with rfl | h
    · omega
    · have := ih h; omega
theorem jl_one (xs : List Str) (i : Nat) : jl (xs.take (i + 1)) + jl (xs.drop i) ≤ 2 * jl xs := by
  have h1 := jl_take xs (i + 1)
  have h2 := jl_take xs i
  omega
theorem flat_sum (s : Ch) (xs : List Str) : (xs.map fun y => s ++ y.cps.toList).flatten.length = (xs.map fun y => y.length + s.length).sum := by
  induction xs with
  | nil => rfl
  | cons x xs ih =>
    rw [List.map_cons, List.flatten_cons, List.length_append, ih, List.map_cons, List.sum_cons, List.length_append]
    show _ + x.length + _ = _
    omega
theorem join_len {sep : Str} {xs : List Str} (hs : sep.length = 1) : (Str.join sep xs).length = jl xs - 1 := by
  show (Str.join sep xs).cps.toList.length = _
  rw [join_list]
  cases xs with
  | nil => rfl
  | cons x xs =>
    have hs' : sep.cps.toList.length = 1 := hs
    rw [List.map_cons, jl_cons]
    simp only [List.length_append, List.map_map]
    have := flat_sum sep.cps.toList xs
    rw [hs'] at this
    have e : (fun y => sep.cps.toList ++ y) ∘ (fun x : Str => x.cps.toList) = fun y : Str => sep.cps.toList ++ y.cps.toList := rfl
    rw [e, this]
    show x.length + jl xs = _
    omega
theorem join_as {sep : Str} {xs : List Str} (hs : sep.length = 1) (h0 : ∀ c ∈ sep.cps.toList, c < 128) (h : ∀ x ∈ xs, ∀ c ∈ x.cps.toList, c < 128) : As (jl xs - 1) (Str.join sep xs) := by
  refine ⟨by rw [join_len hs]; exact Nat.le_refl _, fun c hc => ?_⟩
  rw [join_list] at hc
  cases xs with
  | nil => cases hc
  | cons x xs =>
    rw [List.map_cons] at hc
    dsimp only at hc
    rcases List.mem_append.mp hc with hc | hc
    · exact h x List.mem_cons_self c hc
    · obtain ⟨l, hl, hc⟩ := List.mem_flatten.mp hc
      rw [List.map_map] at hl
      obtain ⟨y, hy, rfl⟩ := List.mem_map.mp hl
      rcases List.mem_append.mp hc with hc | hc
      · exact h0 c hc
      · exact h y (List.mem_cons_of_mem _ hy) c hc
theorem strsOf_str : ∀ xs : List Str, strsOf (xs.map D.str) = some xs
  | [] => rfl
  | x :: xs => by simp only [List.map_cons, strsOf, strsOf_str xs, Option.map_some]
theorem sum_jl {sep : Str} (hs : sep.length = 1) : ∀ xs : List Str, (xs.map (·.length)).sum + xs.length * sep.length = jl xs
  | [] => by simp [jl]
  | x :: xs => by
    have := sum_jl hs xs
    rw [jl_cons, ← this, hs]
    simp only [List.map_cons, List.sum_cons, List.length_cons]
    omega
/-- a join by one sign -/
theorem o_join1 {st : Store} {Q : D → Store → Prop} {z : Str} {l n : Nat} {xs : List Str} (h : st[l]? = some (.lst (xs.map D.str))) (hz : z.length = 1) (h0 : ∀ c ∈ z.cps.toList, c < 128) (hx : ∀ x ∈ xs, ∀ c ∈ x.cps.toList, c < 128) (hj : jl xs ≤ n + 1) (hn : n < 16777216) (q : ∀ y, As n y → Q (.str y) st) : EvO (joinF (.str z) [.ref l] st) Q := by
  simp only [joinF, h, strsOf_str, Option.bind_some]
  rw [sum_jl hz, if_pos (by show _ ≤ 16777216; omega)]
  have e : Txt.join z xs = Str.join z xs := eq_of_beq (PyProof.Rows.join_plain_closes z xs)
  rw [e]
  exact q _ ((join_as hz h0 hx).mono (by omega))
theorem split_as {n : Nat} {x : Str} (h : As n x) : jl (Txt.split x " ") ≤ n + 1 ∧ (∀ y ∈ Txt.split x " ", ∀ c ∈ y.cps.toList, c < 128) := by
  have e := StrLaws.join_split x " "
  have hs : (Str.ofString " ").length = 1 := by decide +kernel
  constructor
  · have l := join_len (xs := Txt.split x " ") hs
    have e' : (Str.join (Str.ofString " ") (Txt.split x " ")).length = x.length := by
      show (Str.join " " (Txt.split x " ")).length = _
      rw [e]
    rw [e'] at l
    have := h.1
    omega
  · intro y hy c hc
    refine h.2 c ?_
    rw [← e, join_list]
    cases hh : Txt.split x " " with
    | nil => rw [hh] at hy; cases hy
    | cons w ws =>
      rw [hh] at hy
      rw [List.map_cons]
      dsimp only
      rcases List.mem_cons.mp hy with rfl | hy
      · exact List.mem_append.mpr (.inl hc)
      · refine List.mem_append.mpr (.inr (List.mem_flatten.mpr ⟨_, List.mem_map.mpr ⟨_, List.mem_map.mpr ⟨y, hy, rfl⟩, rfl⟩, List.mem_append.mpr (.inr hc)⟩))
theorem o_split {st : Store} {Q : D → Store → Prop} {a b : Str} (h : (b.length == 0) = false ∧ a.length + 2 ≤ LIM) : EvO (splitF (.str a) [.str b] st) Q = Q (.ref st.length) (st ++ [.lst ((Txt.split a b).map .str)]) := by simp only [splitF, if_pos h]; rfl
theorem as_mul {n k : Nat} {z : Str} (h : As n z) : As (k * n) ⟨(List.replicate k z.cps.toList).flatten.toArray⟩ := by
  constructor
  · show ((List.replicate k z.cps.toList).flatten.toArray).size ≤ _
    rw [List.size_toArray, List.length_flatten, List.map_replicate, List.sum_replicate_nat]
    exact Nat.mul_le_mul_left _ h.1
  · intro c hc
    have hc : c ∈ (List.replicate k z.cps.toList).flatten := by simpa using hc
    obtain ⟨l, hl, hc⟩ := List.mem_flatten.mp hc
    rw [(List.mem_replicate.mp hl).2] at hc
    exact h.2 c hc
theorem pick_str {st : Store} {k : Nat} {z : Str} {Q : D → Store → Prop} (h : Deck st k) (hk : k < 2 ^ 32) (h0 : 0 < z.length) (hw : z.length ≤ 1000) (q : ∀ c st', c ∈ z.cps.toList → Deck st' (k + 1) → Grow [2, 3] st st' → Q (.str (tx [c])) st') : Ev (F__law_pick [.ref 3, .str z] st) Q := by
  simp only [F__law_pick, ev_run, evs_nil, evs_seq, evs_ret, evs_retN, evs_expr, evs_if, evs_set, evs_par2, evs_par3, evs_sub, evs_match, evs_mnil, evs_mcons, evs_for, ev_c, ev_v, ev_op, ev_un, ev_val, ev_bl, ev_tnot, ev_tand, ev_tor, ev_not, ev_and, ev_or, ev_if, ev_chain, ev_nil, ev_cons, ev_b, ev_call, ev_callK, ev_none, ev_some, ev_sl, ev_mt, ev_knil, ev_kcons, ev_dic, ev_iseq, ev_lc, ev_yes, ev_range1, ev_enum, ev_ok, ev_okX, List.map_cons, List.map_nil, List.length_cons, List.length_nil, List.replicate, List.cons_append, List.nil_append, List.getElem?_cons_zero, List.getElem?_cons_succ, List.set_cons_zero, List.set_cons_succ]
  rw [o_lenS (by show _ ≤ 16777216; omega)]
  refine draw_ok h hk (by omega) (by omega) fun r st' r0 r1 dk g => ?_
  have hz : z.cps.toList.length = z.length := rfl
  obtain ⟨d, e1, e2⟩ := atI_ofNat (ds := z.cps.toList) r0 (by omega)
  rw [o_ixS (by show _ ≤ 16777216; omega) e1]
  exact q d st' (List.mem_of_getElem? e2) dk g
theorem as_dig {v : Int} (v0 : 0 ≤ v) (v4 : v < 4) : As 1 (toString v : Str) ∧ v.natAbs.log2 < 1920 := by
  have : v = 0 ∨ v = 1 ∨ v = 2 ∨ v = 3 := by omega
  rcases this with rfl | rfl | rfl | rfl <;> exact ⟨⟨by decide +kernel, by decide +kernel⟩, by decide⟩
theorem o_strI {st : Store} {Q : D → Store → Prop} {i : Int} (h : i.natAbs.log2 < 1920) : EvO (strF [.int i] st) Q = Q (.str (toString i)) st := by simp only [strF, if_pos h]; rfl
theorem as_one {c : Nat} (h : c < 128) : As 1 (tx [c]) := ⟨by rw [tx_len]; exact Nat.le_refl _, fun x hx => by rw [tx_list] at hx; rw [List.mem_singleton.mp hx]; exact h⟩
theorem two_le : ∀ xs : List Str, (xs.map fun y => y.length + 2).sum ≤ 2 * jl xs
  | [] => Nat.le_refl _
  | y :: ys => by
    have := two_le ys
    rw [jl_cons]
    simp only [List.map_cons, List.sum_cons]
    omega
/-- replace of one sign by two -/
theorem join2_len {sep : Str} {xs : List Str} (hs : sep.length = 2) : (Str.join sep xs).length ≤ 2 * jl xs := by
  show (Str.join sep xs).cps.toList.length ≤ _
  rw [join_list]
  cases xs with
  | nil => exact Nat.zero_le _
  | cons x xs =>
    have hs' : sep.cps.toList.length = 2 := hs
    rw [List.map_cons, jl_cons]
    simp only [List.length_append, List.map_map]
    have := flat_sum sep.cps.toList xs
    rw [hs'] at this
    have e : (fun y => sep.cps.toList ++ y) ∘ (fun x : Str => x.cps.toList) = fun y : Str => sep.cps.toList ++ y.cps.toList := rfl
    rw [e, this]
    have h2 := two_le xs
    show x.length + _ ≤ _
    omega
theorem as_repl {n : Nat} {x z : Str} {c : Nat} (h : As n x) (hz : z.length = 2) (h0 : ∀ c ∈ z.cps.toList, c < 128) : As (2 * n + 2) (Txt.replace x ⟨#[c]⟩ z) := by
  rw [StrLaws.replace_one]
  have e := StrLaws.join_split x ⟨#[c]⟩
  have hs : (⟨#[c]⟩ : Str).length = 1 := rfl
  have lj : jl (Txt.split x ⟨#[c]⟩) ≤ n + 1 := by
    have l := join_len (xs := Txt.split x ⟨#[c]⟩) hs
    rw [e] at l
    have := h.1
    omega
  have hc : ∀ y ∈ Txt.split x ⟨#[c]⟩, ∀ c ∈ y.cps.toList, c < 128 := by
    intro y hy d hd
    refine h.2 d ?_
    rw [← e, join_list]
    cases hh : Txt.split x ⟨#[c]⟩ with
    | nil => rw [hh] at hy; cases hy
    | cons w ws =>
      rw [hh] at hy
      rw [List.map_cons]
      dsimp only
      rcases List.mem_cons.mp hy with rfl | hy
      · exact List.mem_append.mpr (.inl hd)
      · refine List.mem_append.mpr (.inr (List.mem_flatten.mpr ⟨_, List.mem_map.mpr ⟨_, List.mem_map.mpr ⟨y, hy, rfl⟩, rfl⟩, List.mem_append.mpr (.inr hd)⟩))
  refine ⟨by have := join2_len (xs := Txt.split x ⟨#[c]⟩) hz; omega, fun d hd => ?_⟩
  rw [join_list] at hd
  cases hh : Txt.split x ⟨#[c]⟩ with
  | nil => rw [hh] at hd; cases hd
  | cons w ws =>
    rw [hh] at hd hc
    rw [List.map_cons] at hd
    dsimp only at hd
    rcases List.mem_append.mp hd with hd | hd
    · exact hc w List.mem_cons_self d hd
    · obtain ⟨l, hl, hd⟩ := List.mem_flatten.mp hd
      rw [List.map_map] at hl
      obtain ⟨y, hy, rfl⟩ := List.mem_map.mp hl
      rcases List.mem_append.mp hd with hd | hd
      · exact h0 d hd
      · exact hc y (List.mem_cons_of_mem _ hy) d hd
end Mi
set_option Elab.async false
set_option linter.all false
set_option maxRecDepth 100000
set_option maxHeartbeats 1000000
/-! Qn: texts of records that are drawn. -/
namespace Mi
open PySem
def LN : Nat → Nat
  | 0 => 45
  | d + 1 => 45 + 6 * LN d
theorem num9 {L : List Int} {d : D} {n : Int} (h : d ∈ L.map D.int) (hl : L.all (fun i => decide (0 ≤ i) && decide (i ≤ n)) = true) : ∃ i : Int, d = .int i ∧ 0 ≤ i ∧ i ≤ n := by
  obtain ⟨i, hi, rfl⟩ := List.mem_map.mp h
  have := List.all_eq_true.mp hl i hi
  simp only [Bool.and_eq_true, decide_eq_true_eq] at this
  exact ⟨i, rfl, this⟩
theorem set_int {st : Store} {l : Nat} {d e : D} (h : st[l]? = some (.lst [d])) : setItemF (.ref l) (.int 0) e st = some (st.set l (.lst [e])) := by
  simp only [setItemF, h]
  rfl
theorem rg_len {n : Int} : (rgItems 0 n.toNat).length = n.toNat := by simp [rgItems]
theorem join0_as {xs : List Ch} (h : ∀ x ∈ xs, ∀ c ∈ x, c < 128) : ∀ c ∈ xs.flatten, c < 128 := fun c hc => by
  obtain ⟨x, hx, hc⟩ := List.mem_flatten.mp hc
  exact h x hx c hc
theorem grow_l {l : Nat} {a b : Store} (g : Grow [2, 3] a b) : Grow [2, 3, l] a b := g.weak fun i hi => by
  simp only [List.mem_cons, List.not_mem_nil, or_false] at hi ⊢
  rcases hi with h | h
  · exact .inl h
  · exact .inr (.inl h)
theorem abc_lt : ∀ c ∈ abc.cps.toList, c ≤ 122 := by decide +kernel
/-- a drawn name -/
theorem name_ok {st : Store} {k : Nat} {n : Int} {p : Rho} {Q : List D → Store → Prop} (h : Deck st k) (hk : k + 8 < 2 ^ 32) (n0 : 0 ≤ n) (n8 : n ≤ 8) (h0 : p[0]? = some (some (.ref 3))) (h5 : p[5]? = some (some (.str abc))) (hl : p.length = 11) (q : ∀ cs st' k', (cs : Ch).length ≤ 8 → (∀ c ∈ cs, c < 128) → Deck st' k' → k' ≤ k + 8 → Grow [2, 3] st st' → Q (cs.map fun c => D.str (tx [c])) st') :
    Ev (compGo (fun _ => True) (gNameF 10) tYesF (eCall F__law_pick (aCons (eVar 0) (aCons (eVar 5) aNil))) p (rgItems 0 n.toNat) st) Q := by
  have labc' : abc.length = 26 := by decide +kernel
  refine ev_comp (fun i acc s => ∃ cs : Ch, acc = cs.map (fun c => D.str (tx [c])) ∧ cs.length = i ∧ (∀ c ∈ cs, c < 128) ∧ Deck s (k + i) ∧ Grow [2, 3] st s) _ 0 [] st ⟨[], rfl, rfl, by simp, h, Grow.refl⟩ (fun _ _ _ _ _ _ => trivial) (fun i d acc s _ hd hI => ?_) (fun ys s hI => ?_)
  · obtain ⟨cs, rfl, hcl, hcs, hs, gs⟩ := hI
    have hi := (List.getElem?_eq_some_iff.mp hd).1
    rw [Nat.sub_zero, rg_len] at hi
    refine ⟨p.set 10 (some d), rfl, ?_⟩
    have e0 : (p.set 10 (some d))[0]? = some (some (.ref 3)) := by rw [List.getElem?_set_ne (by decide)]; exact h0
    have e5 : (p.set 10 (some d))[5]? = some (some (.str abc)) := by rw [List.getElem?_set_ne (by decide)]; exact h5
    show EvX _ _ _
    rw [ev_yes, if_pos rfl]
    show EvX _ _ _
    rw [ev_call, ev_cons, ev_var e0, ev_cons, ev_var e5, ev_nil]
    refine pick_str hs (by omega) (by rw [labc']; decide) (by rw [labc']; decide) fun c s' hc hs' g' => ?_
    have hc2 : c < 128 := by
      have := abc_lt c hc
      omega
    refine ⟨cs ++ [c], by simp, by rw [List.length_append, hcl]; rfl, fun x hx => ?_, by rw [← Nat.add_assoc]; exact hs', gs.trans g'⟩
    rcases List.mem_append.mp hx with hx | hx
    · exact hcs x hx
    · rw [List.mem_singleton.mp hx]; exact hc2
  · obtain ⟨cs, hy, hcl, hcs, hs, gs⟩ := hI
    rw [rg_len] at hcl hs
    rw [List.nil_append] at hy
    subst hy
    exact q cs s _ (by omega) hcs hs (by omega) gs
theorem records_ok : ∀ (d n : Nat), d + 1 ≤ n → LN d ≤ 16777216 → ∀ {l k : Nat} {i : Int} {st : Store} {Q : D → Store → Prop}, Deck st k → l ∉ [2, 3] → st[l]? = some (.lst [.int i]) → k + LN d < 2 ^ 32 →
    (∀ z st' k' i', As (LN d) z → Deck st' k' → k' ≤ k + LN d → st'[l]? = some (.lst [.int i']) → Grow [2, 3, l] st st' → Q (.str z) st') → Ev (F__law_records n [.ref 3, .ref l, .int ((d + 1 : Nat) : Int)] st) Q := by
  intro d
  induction d using Nat.strongRecOn with
  | ind d ih =>
    intro n hn hLN l k i st Q hd nl el hk q
    obtain ⟨n, rfl⟩ : ∃ j, n = j + 1 := ⟨n - 1, by omega⟩
    -- what an inner text may be
    obtain ⟨M, hM, hrec⟩ : ∃ M, LN d = 45 + 6 * M ∧ (1 < ((d + 1 : Nat) : Int) → ∃ d', d = d' + 1 ∧ M = LN d') := by
      cases d with
      | zero => exact ⟨0, rfl, fun h => absurd h (by omega)⟩
      | succ d' => exact ⟨LN d', rfl, fun _ => ⟨d', rfl, rfl⟩⟩
    have lf3 : ∀ {f : Nat}, f ∉ [2, 3] → f ≠ l → f ∉ [2, 3, l] := fun h1 h2 hq => by
      simp only [List.mem_cons, List.not_mem_nil, or_false, not_or] at h1 hq
      rcases hq with h | h | h
      · exact h1.1 h
      · exact h1.2 h
      · exact h2 h
    have llt := (List.getElem?_eq_some_iff.mp el).1
    simp only [F__law_records, ev_run, evs_nil, evs_seq, evs_ret, evs_retN, evs_expr, evs_if, evs_set, evs_par2, evs_par3, evs_sub, evs_match, evs_mnil, evs_mcons, evs_for, ev_c, ev_v, ev_op, ev_un, ev_val, ev_bl, ev_tnot, ev_tand, ev_tor, ev_not, ev_and, ev_or, ev_if, ev_chain, ev_nil, ev_cons, ev_b, ev_call, ev_callK, ev_none, ev_some, ev_sl, ev_mt, ev_knil, ev_kcons, ev_dic, ev_iseq, ev_lc, ev_yes, ev_range1, ev_enum, ev_ok, ev_okX, evs_raise, ev_inRg, List.map_cons, List.map_nil, List.length_cons, List.length_nil, List.replicate, List.cons_append, List.nil_append, List.getElem?_cons_zero, List.getElem?_cons_succ, List.set_cons_zero, List.set_cons_succ, evs_asgT]
    rw [o_mkLst (by decide), o_mkTup (by show 2 ≤ 16777216; decide), tg_2]
    simp only [List.map_cons, List.map_nil, List.length_cons, List.length_nil, List.replicate, List.cons_append, List.nil_append, List.getElem?_cons_zero, List.getElem?_cons_succ, List.set_cons_zero, List.set_cons_succ]
    rw [o_mkLst (by show 4 ≤ 16777216; decide)]
    have nf := hd.new
    have nfl : st.length ≠ l := by omega
    have hd1 := (hd.app [O.lst []]).app [O.lst [D.int 1, D.int 1, D.int 2, D.int 3]]
    refine pick_lst (ds := ([1, 1, 2, 3] : List Int).map D.int) hd1 (by omega) get_new (hd.app _).new (by simp) (by show 4 ≤ _; decide) fun dc s1 hdc hd1' g1 => ?_
    obtain ⟨cnt, rfl, c0, c3⟩ := num9 (n := 3) hdc (by decide)
    dsimp only
    refine ⟨⟨by omega, by omega⟩, ?_⟩
    have g01 : Grow [2, 3, l] st s1 := ((Grow.app [O.lst []]).trans (Grow.app _)).trans (grow_l g1)
    have ef1 : s1[st.length]? = some (.lst []) := g1.2 _ _ nf (get_app get_new)
    have el1 : s1[l]? = some (.lst [.int i]) := g1.2 _ _ nl (get_app (get_app el))
    have lf0 : st.length ≤ st.length := Nat.le_refl _
    generalize hlf : st.length = lf at nf nfl ef1 ⊢
    have lf0 : st.length ≤ lf := by omega
    refine evs_forGo (fun j p s => ∃ kk ii xs o3 o6 o7 o8 o9, p = [some (.ref 3), some (.ref l), some (.int ((d + 1 : Nat) : Int)), o3, some (.ref lf), some (.str abc), o6, o7, o8, o9, none] ∧ Deck s kk ∧ s[l]? = some (.lst [.int ii]) ∧ s[lf]? = some (.lst (xs.map D.str)) ∧ xs.length = j ∧ (∀ x ∈ xs, ∀ c ∈ x.cps.toList, c < 128) ∧ jl xs ≤ j * (15 + 2 * M) ∧ kk ≤ k + 1 + j * (13 + 2 * M) ∧ Grow [2, 3, l] st s) _ 0 _ _
      ⟨_, i, [], none, none, none, none, none, rfl, hd1', el1, ef1, rfl, by simp, by simp [jl], by omega, g01⟩ (fun _ _ _ _ _ _ => trivial) (fun j dj p s _ hdj hI => ?_) (fun p s hI => ?_)
    · obtain ⟨kk, ii, xs, o3, o6, o7, o8, o9, rfl, hs, els, efs, hxl, hx, hjl, hkk, gs⟩ := hI
      have hj := (List.getElem?_eq_some_iff.mp hdj).1
      rw [Nat.sub_zero, rg_len] at hj
      have hj3 : j ≤ 2 := by omega
      have hjm : j * (13 + 2 * M) ≤ 2 * (13 + 2 * M) := Nat.mul_le_mul_right _ hj3
      refine ⟨_, rfl, ?_⟩
      simp only [ev_run, evs_nil, evs_seq, evs_ret, evs_retN, evs_expr, evs_if, evs_set, evs_par2, evs_par3, evs_sub, evs_match, evs_mnil, evs_mcons, evs_for, ev_c, ev_v, ev_op, ev_un, ev_val, ev_bl, ev_tnot, ev_tand, ev_tor, ev_not, ev_and, ev_or, ev_if, ev_chain, ev_nil, ev_cons, ev_b, ev_call, ev_callK, ev_none, ev_some, ev_sl, ev_mt, ev_knil, ev_kcons, ev_dic, ev_iseq, ev_lc, ev_yes, ev_range1, ev_enum, ev_ok, ev_okX, evs_raise, ev_inRg, List.map_cons, List.map_nil, List.length_cons, List.length_nil, List.replicate, List.cons_append, List.nil_append, List.getElem?_cons_zero, List.getElem?_cons_succ, List.set_cons_zero, List.set_cons_succ, gNameF, wipeR]
      rw [o_lst els (d := .int ii) rfl, o_sub, set_int els]
      dsimp only
      have hs2 := hs.set (o := O.lst [D.int (ii - 1)]) nl
      have el2 : (s.set l (O.lst [D.int (ii - 1)]))[l]? = some (.lst [.int (ii - 1)]) := get_set els
      have ef2 : (s.set l (O.lst [D.int (ii - 1)]))[lf]? = some (.lst (xs.map D.str)) := get_ne efs (fun e => nfl e.symm)
      have g2 : Grow [2, 3, l] st (s.set l (O.lst [D.int (ii - 1)])) := gs.trans (Grow.set _ (by simp))
      generalize s.set l (O.lst [D.int (ii - 1)]) = s2 at hs2 el2 ef2 g2 ⊢
      refine ⟨rfl, ?_⟩
      rw [o_mkLst (by show 4 ≤ 16777216; decide)]
      have hs3 := hs2.app [O.lst [D.int 1, D.int 1, D.int 2, D.int 8]]
      refine pick_lst (ds := ([1, 1, 2, 8] : List Int).map D.int) hs3 (by omega) get_new hs2.new (by simp) (by show 4 ≤ _; decide) fun dc s3 hdc hd3 g3 => ?_
      obtain ⟨cn, rfl, n0, n8⟩ := num9 (n := 8) hdc (by decide)
      dsimp only
      refine ⟨⟨by omega, by omega⟩, ?_⟩
      have el3 : s3[l]? = some (.lst [.int (ii - 1)]) := g3.2 _ _ nl (get_app el2)
      have ef3 : s3[lf]? = some (.lst (xs.map D.str)) := g3.2 _ _ nf (get_app ef2)
      have g03 : Grow [2, 3, l] st s3 := (g2.trans (Grow.app _)).trans (grow_l g3)
      refine name_ok hd3 (by omega) n0 n8 rfl rfl rfl fun cs s4 k4 hcl hcs hd4 hk4 g4 => ?_
      have e0 : cs.map (fun c => D.str (tx [c])) = (cs.map fun c => [c]).map fun x => D.str (tx x) := by rw [List.map_map]; rfl
      have ef : (cs.map fun c => [c]).flatten = cs := by
        clear hcl hcs e0
        induction cs with
        | nil => rfl
        | cons c cs ih => rw [List.map_cons, List.flatten_cons, ih]; rfl
      have z0 : (Str.ofString "").length = 0 := by decide +kernel
      rw [o_mkLst (by rw [List.length_map]; show _ ≤ 16777216; omega), e0, o_joinT get_new (by
        rw [List.map_map, List.map_map, List.length_map, z0]
        have : List.map (((fun x : Str => x.length) ∘ tx) ∘ fun c => [c]) cs = cs.map fun _ => 1 := List.map_congr_left fun c _ => tx_len [c]
        rw [this, List.map_const', List.sum_replicate_nat]
        show _ ≤ 16777216
        omega), join_0, ef]
      have hd5 := hd4.app [O.lst ((cs.map fun c => [c]).map fun x => D.str (tx x))]
      have el5 : (s4 ++ [O.lst ((cs.map fun c => [c]).map fun x => D.str (tx x))])[l]? = some (.lst [.int (ii - 1)]) := get_app (g4.2 _ _ nl el3)
      have ef5 : (s4 ++ [O.lst ((cs.map fun c => [c]).map fun x => D.str (tx x))])[lf]? = some (.lst (xs.map D.str)) := get_app (g4.2 _ _ nf ef3)
      have g05 : Grow [2, 3, l] st (s4 ++ [O.lst ((cs.map fun c => [c]).map fun x => D.str (tx x))]) := (g03.trans (grow_l g4)).trans (Grow.app _)
      generalize s4 ++ [O.lst ((cs.map fun c => [c]).map fun x => D.str (tx x))] = s5 at hd5 el5 ef5 g05 ⊢
      have an : As 8 (tx cs) := ⟨by rw [tx_len]; exact hcl, by rw [tx_list]; exact hcs⟩
      have ad : As 1 (Str.ofString ".") := ⟨by decide +kernel, by decide +kernel⟩
      have alb : As 1 (Str.ofString "[") := ⟨by decide +kernel, by decide +kernel⟩
      have arb : As 1 (Str.ofString "]") := ⟨by decide +kernel, by decide +kernel⟩
      rw [o_addS (by have := an.1; have := ad.1; show _ ≤ 16777216; omega)]
      have an1 := as_app an ad
      refine draw_ok hd5 (by omega) (by decide) (by decide) fun v s6 v0 v4 hd6 g6 => ?_
      obtain ⟨av, lv⟩ := as_dig v0 v4
      rw [o_strI lv, o_addS (by have := an1.1; have := av.1; show _ ≤ 16777216; omega)]
      have an2 := as_app an1 av
      generalize tx cs ++ Str.ofString "." ++ (toString v : Str) = one at an2 ⊢
      rw [o_mkLst (by show 4 ≤ 16777216; decide)]
      have hd6' := hd6.app [O.lst [D.int 0, D.int 1, D.int 1, D.int 2]]
      refine pick_lst (ds := ([0, 1, 1, 2] : List Int).map D.int) hd6' (by omega) get_new hd6.new (by simp) (by show 4 ≤ _; decide) fun dc s7 hdc hd7 g7 => ?_
      obtain ⟨cp, rfl, p0, p2⟩ := num9 (n := 2) hdc (by decide)
      dsimp only
      refine ⟨⟨by omega, by omega⟩, ?_⟩
      have el7 : s7[l]? = some (.lst [.int (ii - 1)]) := g7.2 _ _ nl (get_app (g6.2 _ _ nl el5))
      have ef7 : s7[lf]? = some (.lst (xs.map D.str)) := g7.2 _ _ nf (get_app (g6.2 _ _ nf ef5))
      have g07 : Grow [2, 3, l] st s7 := ((g05.trans (grow_l g6)).trans (Grow.app _)).trans (grow_l g7)
      have hkk7 : k4 + 1 + 1 ≤ k + 1 + j * (13 + 2 * M) + 11 := by omega
      refine evs_forGo (fun t p s => ∃ kk ii z o8 o9, p = [some (.ref 3), some (.ref l), some (.int ((d + 1 : Nat) : Int)), some dj, some (.ref lf), some (.str abc), some (.str (tx cs)), some (.str z), o8, o9, none] ∧ Deck s kk ∧ s[l]? = some (.lst [.int ii]) ∧ s[lf]? = some (.lst (xs.map D.str)) ∧ As (10 + t * (2 + M)) z ∧ kk ≤ k + 1 + j * (13 + 2 * M) + 11 + t * (1 + M) ∧ Grow [2, 3, l] st s) _ 0 _ _
        ⟨_, _, one, o8, o9, rfl, hd7, el7, ef7, by rw [Nat.zero_mul]; exact an2, by omega, g07⟩ (fun _ _ _ _ _ _ => trivial) (fun t dt p s _ hdt hI => ?_) (fun p s hI => ?_)
      · obtain ⟨kk2, ii2, z, o8, o9, rfl, hs8, el8, ef8, az, hkk2, g8⟩ := hI
        have ht := (List.getElem?_eq_some_iff.mp hdt).1
        rw [Nat.sub_zero, rg_len] at ht
        have ht1 : t ≤ 1 := by omega
        have htm : t * (1 + M) ≤ 1 * (1 + M) := Nat.mul_le_mul_right _ ht1
        have htz : t * (2 + M) ≤ 1 * (2 + M) := Nat.mul_le_mul_right _ ht1
        have az' := az.1
        refine ⟨_, rfl, ?_⟩
        simp only [ev_run, evs_nil, evs_seq, evs_ret, evs_retN, evs_expr, evs_if, evs_set, evs_par2, evs_par3, evs_sub, evs_match, evs_mnil, evs_mcons, evs_for, ev_c, ev_v, ev_op, ev_un, ev_val, ev_bl, ev_tnot, ev_tand, ev_tor, ev_not, ev_and, ev_or, ev_if, ev_chain, ev_nil, ev_cons, ev_b, ev_call, ev_callK, ev_none, ev_some, ev_sl, ev_mt, ev_knil, ev_kcons, ev_dic, ev_iseq, ev_lc, ev_yes, ev_range1, ev_enum, ev_ok, ev_okX, evs_raise, ev_inRg, List.map_cons, List.map_nil, List.length_cons, List.length_nil, List.replicate, List.cons_append, List.nil_append, List.getElem?_cons_zero, List.getElem?_cons_succ, List.set_cons_zero, List.set_cons_succ, gNameF]
        -- how it goes on with an inner text
        have fin : ∀ (b : Bool) (y : Str) (s9 : Store) (k9 : Nat) (i9 : Int), As M y → Deck s9 k9 → k9 ≤ kk2 + 1 + M → s9[l]? = some (.lst [.int i9]) → s9[lf]? = some (.lst (xs.map D.str)) → Grow [2, 3, l] st s9 →
            EvO (addF (.str (z ++ Str.ofString "[")) (.str y) s9) fun x st1 => EvO (addF x (.str (Str.ofString "]")) st1) fun d_1 st1 => ∃ kk ii z o8 o9, [some (D.ref 3), some (.ref l), some (.int ((d + 1 : Nat) : Int)), some dj, some (.ref lf), some (.str abc), some (.str (tx cs)), some d_1, some dt, some (.bl b), none] = [some (.ref 3), some (.ref l), some (.int ((d + 1 : Nat) : Int)), some dj, some (.ref lf), some (.str abc), some (.str (tx cs)), some (.str z), o8, o9, none] ∧ Deck st1 kk ∧ st1[l]? = some (.lst [.int ii]) ∧ st1[lf]? = some (.lst (xs.map D.str)) ∧ As (10 + (t + 1) * (2 + M)) z ∧ kk ≤ k + 1 + j * (13 + 2 * M) + 11 + (t + 1) * (1 + M) ∧ Grow [2, 3, l] st st1 := by
          intro b y s9 k9 i9 ay hd9 hk9 el9 ef9 g9
          have a1 := as_app az alb
          have a2 := as_app a1 ay
          have a3 := as_app a2 arb
          have ay' := ay.1
          have e1 : (z ++ Str.ofString "[").length ≤ 10 + t * (2 + M) + 1 := a1.1
          have e2 : (z ++ Str.ofString "[" ++ y).length ≤ 10 + t * (2 + M) + 1 + M := a2.1
          have e3 : (Str.ofString "]").length ≤ 1 := arb.1
          rw [o_addS (by show _ ≤ 16777216; omega), o_addS (by show _ ≤ 16777216; omega)]
          have t1 : (t + 1) * (2 + M) = t * (2 + M) + (2 + M) := by rw [Nat.add_mul, Nat.one_mul]
          have t2 : (t + 1) * (1 + M) = t * (1 + M) + (1 + M) := by rw [Nat.add_mul, Nat.one_mul]
          exact ⟨k9, i9, _, _, _, rfl, hd9, el9, ef9, a3.mono (by omega), by omega, g9⟩
        have emp : As M (Str.ofString "") := ⟨by rw [z0]; exact Nat.zero_le _, by decide +kernel⟩
        have ab0 : (z ++ Str.ofString "[").length ≤ 10 + t * (2 + M) + 1 := (as_app az alb).1
        rw [o_lst el8 (d := .int ii2) rfl, o_cmp, ev_bl]
        have fa : z.length + (Str.ofString "[").length ≤ LIM := by have := alb.1; show _ ≤ 16777216; omega
        by_cases cm : (0 : Int) < ii2
        · rw [decide_eq_true cm, if_pos rfl, o_cmp, ev_bl]
          by_cases cd : (1 : Int) < ((d + 1 : Nat) : Int)
          · rw [decide_eq_true cd, if_pos rfl]
            obtain ⟨d', rfl, rfl⟩ := hrec cd
            refine draw_ok hs8 (by omega) (by decide) (by decide) fun w s9 w0 w1 hd9 g9 => ?_
            rw [o_eqI, o_addS fa, ev_bl]
            have el9 := g9.2 _ _ nl el8
            have ef9 := g9.2 _ _ nf ef8
            cases hw : (w == 1) with
            | true =>
              rw [if_pos rfl, o_sub]
              have e1 : ((d' + 1 + 1 : Nat) : Int) - 1 = ((d' + 1 : Nat) : Int) := by omega
              rw [e1]
              refine ih d' (by omega) n (by omega) (by omega) hd9 nl el9 (by omega) fun y s10 k10 i10 ay hd10 hk10 el10 g10 => ?_
              exact fin true y s10 k10 i10 ay hd10 (by omega) el10 (g10.2 _ _ (lf3 nf nfl) ef9) ((g8.trans (grow_l g9)).trans g10)
            | false =>
              rw [if_neg (by decide)]
              exact fin false _ s9 _ _ emp hd9 (by omega) el9 ef9 (g8.trans (grow_l g9))
          · rw [decide_eq_false cd, if_neg (by decide), o_addS fa, if_neg (by decide)]
            exact fin false _ s _ _ emp hs8 (by omega) el8 ef8 g8
        · rw [decide_eq_false cm, if_neg (by decide), o_addS fa, if_neg (by decide)]
          exact fin false _ s _ _ emp hs8 (by omega) el8 ef8 g8
      · obtain ⟨kk2, ii2, z, o8, o9, rfl, hs8, el8, ef8, az, hkk2, g8⟩ := hI
        rw [rg_len, Nat.zero_add] at az hkk2
        have hp2 : cp.toNat ≤ 2 := by omega
        have m1 : cp.toNat * (2 + M) ≤ 2 * (2 + M) := Nat.mul_le_mul_right _ hp2
        have m2 : cp.toNat * (1 + M) ≤ 2 * (1 + M) := Nat.mul_le_mul_right _ hp2
        have az' := az.1
        simp only [ev_run, evs_nil, evs_seq, evs_ret, evs_retN, evs_expr, evs_if, evs_set, evs_par2, evs_par3, evs_sub, evs_match, evs_mnil, evs_mcons, evs_for, ev_c, ev_v, ev_op, ev_un, ev_val, ev_bl, ev_tnot, ev_tand, ev_tor, ev_not, ev_and, ev_or, ev_if, ev_chain, ev_nil, ev_cons, ev_b, ev_call, ev_callK, ev_none, ev_some, ev_sl, ev_mt, ev_knil, ev_kcons, ev_dic, ev_iseq, ev_lc, ev_yes, ev_range1, ev_enum, ev_ok, ev_okX, evs_raise, ev_inRg, List.map_cons, List.map_nil, List.length_cons, List.length_nil, List.replicate, List.cons_append, List.nil_append, List.getElem?_cons_zero, List.getElem?_cons_succ, List.set_cons_zero, List.set_cons_succ]
        refine ⟨ty_lst ef8, ?_⟩
        rw [o_app ef8 (by rw [List.length_map]; show _ < 16777216; omega)]
        have t1 : (j + 1) * (15 + 2 * M) = j * (15 + 2 * M) + (15 + 2 * M) := by rw [Nat.add_mul, Nat.one_mul]
        have t2 : (j + 1) * (13 + 2 * M) = j * (13 + 2 * M) + (13 + 2 * M) := by rw [Nat.add_mul, Nat.one_mul]
        refine ⟨kk2, ii2, xs ++ [z], some dj, _, _, _, _, rfl, hs8.set nf, get_ne el8 nfl, by rw [get_set ef8, List.map_append]; rfl, by rw [List.length_append, hxl]; rfl, fun x hxm => ?_, ?_, by omega, g8.put (by omega)⟩
        · rcases List.mem_append.mp hxm with hxm | hxm
          · exact hx x hxm
          · rw [List.mem_singleton.mp hxm]; exact az.2
        · rw [jl_app, jl_cons]
          have : jl [] = 0 := rfl
          omega
    · obtain ⟨kk, ii, xs, o3, o6, o7, o8, o9, rfl, hs, els, efs, hxl, hx, hjl, hkk, gs⟩ := hI
      rw [rg_len, Nat.zero_add] at hjl hkk
      have hc3 : cnt.toNat ≤ 3 := by omega
      have m1 : cnt.toNat * (15 + 2 * M) ≤ 3 * (15 + 2 * M) := Nat.mul_le_mul_right _ hc3
      have m2 : cnt.toNat * (13 + 2 * M) ≤ 3 * (13 + 2 * M) := Nat.mul_le_mul_right _ hc3
      simp only [ev_run, evs_nil, evs_seq, evs_ret, evs_retN, evs_expr, evs_if, evs_set, evs_par2, evs_par3, evs_sub, evs_match, evs_mnil, evs_mcons, evs_for, ev_c, ev_v, ev_op, ev_un, ev_val, ev_bl, ev_tnot, ev_tand, ev_tor, ev_not, ev_and, ev_or, ev_if, ev_chain, ev_nil, ev_cons, ev_b, ev_call, ev_callK, ev_none, ev_some, ev_sl, ev_mt, ev_knil, ev_kcons, ev_dic, ev_iseq, ev_lc, ev_yes, ev_range1, ev_enum, ev_ok, ev_okX, evs_raise, ev_inRg, List.map_cons, List.map_nil, List.length_cons, List.length_nil, List.replicate, List.cons_append, List.nil_append, List.getElem?_cons_zero, List.getElem?_cons_succ, List.set_cons_zero, List.set_cons_succ]
      refine ⟨rfl, ?_⟩
      refine o_join1 (n := LN d - 1) efs (by decide +kernel) (by decide +kernel) hx (by omega) (by omega) fun y hy => ?_
      exact q y s kk ii (hy.mono (by omega)) hs (by omega) els gs
end Mi
set_option Elab.async false
set_option linter.all false
set_option maxRecDepth 100000
set_option maxHeartbeats 1000000
/-! Qo: texts with a change; deep ones. -/
namespace Mi
open PySem
theorem cutD_to {α : Type} {xs : List α} {i : Nat} (h : i ≤ xs.length) : cutD xs none (some (i : Int)) = xs.take i := by
  unfold cutD
  rw [HT.sIx_nat, HT.sIx_none, Nat.min_eq_left h]
  simp
theorem cutD_from {α : Type} {xs : List α} {i : Nat} (h : i ≤ xs.length) : cutD xs (some (i : Int)) none = xs.drop i := by
  unfold cutD
  rw [HT.sIx_nat, HT.sIx_none, Nat.min_eq_left h]
  exact List.take_of_length_le (by rw [List.length_drop]; exact Nat.le_refl _)
theorem split_ne (x : Str) : Txt.split x " " ≠ [] := fun h => by
  have e := StrLaws.join_split x " "
  rw [h] at e
  have e0 : x = "" := by
    rw [← e]
    rfl
  rw [e0] at h
  exact absurd h (by decide +kernel)
theorem o_minI {st : Store} {Q : D → Store → Prop} {i j : Int} : EvO (minF [.int i, .int j] st) Q = Q (.int (if j < i then j else i)) st := rfl
theorem o_rep {st : Store} {Q : D → Store → Prop} {x y z : Str} (h : x.length + (x.length + 1) * z.length ≤ 16777216) : EvO (replF y z (.str x) st) Q = Q (.str (Txt.replace x y z)) st := by simp only [replF, if_pos h]; rfl
def oddW : List Str := ["", "-", "a", "a.", ".0", "a.00", "a.4", "a.0.0", "abcdefghi.0", "A.0", "a.0[", "a.0]", "[]", "a.0[ ]"]
theorem oddW_ok : ∀ w ∈ oddW, As 11 w := by
  have h : oddW.all (fun w => decide (w.length ≤ 11) && w.cps.toList.all fun c => decide (c < 128)) = true := by decide +kernel
  intro w hw
  have := List.all_eq_true.mp h w hw
  simp only [Bool.and_eq_true, decide_eq_true_eq, List.all_eq_true] at this
  exact this
def signW : Str := "[]. -0123456789abcxyzA_\n"
theorem signW_ok : signW.length = 24 ∧ ∀ c ∈ signW.cps.toList, c < 128 := by decide +kernel
theorem jl_ws {xs ys : List Str} : (∀ x ∈ xs, ∀ c ∈ x.cps.toList, c < 128) → (∀ y ∈ ys, ∀ c ∈ y.cps.toList, c < 128) → ∀ y ∈ xs ++ ys, ∀ c ∈ y.cps.toList, c < 128 := fun h1 h2 y hy => by
  rcases List.mem_append.mp hy with hy | hy
  · exact h1 y hy
  · exact h2 y hy
theorem add3 {st : Store} {Q : D → Store → Prop} {n : Nat} {z b : Str} {lo hi lo2 hi2 : Option Int} (hz : As n z) (hb : As 2 b) (hn : n ≤ 20000) (q : ∀ y, As (3 * n + 20) y → Q (.str y) st) :
    EvO (slF (.str z) lo hi st) fun x st1 => EvO (addF x (.str b) st1) fun y st2 => EvO (slF (.str z) lo2 hi2 st2) fun w st3 => EvO (addF y w st3) Q := by
  have a1 := as_cut (lo := lo) (hi := hi) hz
  have a2 := as_app a1 hb
  have a3 := as_cut (lo := lo2) (hi := hi2) hz
  have a4 := as_app a2 a3
  have := hz.1
  have := a1.1
  have := a2.1
  have := a3.1
  have := hb.1
  have fit : z.length ≤ LIM := by show _ ≤ 16777216; omega
  rw [o_slS fit, o_addS (by show _ ≤ 16777216; omega), o_slS fit, o_addS (by show _ ≤ 16777216; omega)]
  exact q _ (a4.mono (by omega))
theorem add2 {st : Store} {Q : D → Store → Prop} {n : Nat} {z : Str} {lo hi lo2 hi2 : Option Int} (hz : As n z) (hn : n ≤ 20000) (q : ∀ y, As (3 * n + 20) y → Q (.str y) st) :
    EvO (slF (.str z) lo hi st) fun y st2 => EvO (slF (.str z) lo2 hi2 st2) fun w st3 => EvO (addF y w st3) Q := by
  have a1 := as_cut (lo := lo) (hi := hi) hz
  have a3 := as_cut (lo := lo2) (hi := hi2) hz
  have a4 := as_app a1 a3
  have := hz.1
  have := a1.1
  have := a3.1
  have fit : z.length ≤ LIM := by show _ ≤ 16777216; omega
  rw [o_slS fit, o_slS fit, o_addS (by show _ ≤ 16777216; omega)]
  exact q _ (a4.mono (by omega))
theorem add3' {st : Store} {Q : D → Store → Prop} {n : Nat} {z : Str} {lo hi lo1 hi1 lo2 hi2 : Option Int} (hz : As n z) (hn : n ≤ 20000) (q : ∀ y, As (3 * n + 20) y → Q (.str y) st) :
    EvO (slF (.str z) lo hi st) fun x st1 => EvO (slF (.str z) lo1 hi1 st1) fun v st2 => EvO (addF x v st2) fun y st2 => EvO (slF (.str z) lo2 hi2 st2) fun w st3 => EvO (addF y w st3) Q := by
  have a1 := as_cut (lo := lo) (hi := hi) hz
  have hb := as_cut (lo := lo1) (hi := hi1) hz
  have a2 := as_app a1 hb
  have a3 := as_cut (lo := lo2) (hi := hi2) hz
  have a4 := as_app a2 a3
  have := hz.1
  have := a1.1
  have := a2.1
  have := a3.1
  have := hb.1
  have fit : z.length ≤ LIM := by show _ ≤ 16777216; omega
  rw [o_slS fit, o_slS fit, o_addS (by show _ ≤ 16777216; omega), o_slS fit, o_addS (by show _ ≤ 16777216; omega)]
  exact q _ (a4.mono (by omega))
theorem ws_take {ws : List Str} (h : ∀ y ∈ ws, ∀ c ∈ y.cps.toList, c < 128) (i : Nat) : ∀ y ∈ ws.take i, ∀ c ∈ y.cps.toList, c < 128 := fun y hy => h y (List.mem_of_mem_take hy)
theorem ws_drop {ws : List Str} (h : ∀ y ∈ ws, ∀ c ∈ y.cps.toList, c < 128) (i : Nat) : ∀ y ∈ ws.drop i, ∀ c ∈ y.cps.toList, c < 128 := fun y hy => h y (List.mem_of_mem_drop hy)
theorem bent_ok {st : Store} {k n : Nat} {z : Str} {Q : D → Store → Prop} (h : Deck st k) (hk : k + 10 < 2 ^ 32) (hz : As n z) (hn : n ≤ 20000) (q : ∀ y st', As (3 * n + 20) y → Deck st' (k + 6) → Grow [2, 3] st st' → Q (.str y) st') : Ev (F__law_bent [.ref 3, .str z] st) Q := by
  have hz1 := hz.1
  have fit : z.length ≤ LIM := by show _ ≤ 16777216; omega
  have lm : ∀ {j : Nat}, j ≤ 1000000 → j ≤ LIM := fun h => Nat.le_trans h (by decide)
  simp only [F__law_bent, ev_run, evs_nil, evs_seq, evs_ret, evs_retN, evs_expr, evs_if, evs_set, evs_par2, evs_par3, evs_sub, evs_match, evs_mnil, evs_mcons, evs_for, ev_c, ev_v, ev_op, ev_un, ev_val, ev_bl, ev_tnot, ev_tand, ev_tor, ev_not, ev_and, ev_or, ev_if, ev_chain, ev_nil, ev_cons, ev_b, ev_call, ev_callK, ev_none, ev_some, ev_sl, ev_mt, ev_knil, ev_kcons, ev_dic, ev_iseq, ev_lc, ev_yes, ev_range1, ev_enum, ev_ok, ev_okX, evs_raise, ev_inRg, List.map_cons, List.map_nil, List.length_cons, List.length_nil, List.replicate, List.cons_append, List.nil_append, List.getElem?_cons_zero, List.getElem?_cons_succ, List.set_cons_zero, List.set_cons_succ]
  rw [o_lenS fit, o_add]
  refine draw_ok h (by omega) (by omega) (by omega) fun r1 s1 r10 r11 h1 g1 => ?_
  refine draw_ok h1 (by omega) (by decide) (by decide) fun w s2 w0 w1 h2 g2 => ?_
  rw [o_lenS fit, o_add]
  refine draw_ok h2 (by omega) (by omega) (by omega) fun r3 s3 r30 r31 h3 g3 => ?_
  refine pick_str (z := signW) h3 (by omega) (by rw [signW_ok.1]; decide) (by rw [signW_ok.1]; decide) fun c s4 hc h4 g4 => ?_
  have ac : As 1 (tx [c]) := as_one (signW_ok.2 c hc)
  refine ⟨rfl, ?_⟩
  rw [o_split ⟨by decide +kernel, by show _ ≤ 16777216; omega⟩]
  obtain ⟨sj, sa⟩ := split_as hz
  have sne := split_ne z
  have h5 := h4.app [O.lst ((Txt.split z " ").map .str)]
  have e5 : (s4 ++ [O.lst ((Txt.split z " ").map .str)])[s4.length]? = some (.lst ((Txt.split z " ").map .str)) := get_new
  have g5 : Grow [2, 3] st (s4 ++ [O.lst ((Txt.split z " ").map .str)]) := (((g1.trans g2).trans g3).trans g4).trans (Grow.app _)
  have nw := h4.new
  have wl : (Txt.split z " ").length ≤ n + 1 := by
    have : ∀ xs : List Str, xs.length ≤ jl xs := by
      intro xs
      induction xs with
      | nil => exact Nat.zero_le _
      | cons x xs ih => rw [jl_cons, List.length_cons]; omega
    exact Nat.le_trans (this _) sj
  generalize Txt.split z " " = ws at sj sa sne e5 h5 g5 wl ⊢
  generalize hs5 : s4 ++ [O.lst (ws.map .str)] = s5 at e5 h5 g5 ⊢
  have lw : s4.length < s5.length := by rw [← hs5]; simp
  generalize s4.length = lws at nw e5 lw ⊢
  have wpos : 0 < ws.length := List.length_pos_iff.mpr sne
  rw [o_lenL e5, List.length_map]
  refine draw_ok h5 (by omega) (by omega) (by omega) fun r4 s6 r40 r41 h6 g6 => ?_
  obtain ⟨kk, rfl⟩ := Int.eq_ofNat_of_zero_le r40
  have e6 := g6.2 _ _ nw e5
  have g06 := g5.trans g6
  have nod := h6.new
  rw [o_mkLst (lm (by show 14 ≤ _; decide))]
  generalize hs7 : s6 ++ [O.lst [D.str "", .str "-", .str "a", .str "a.", .str ".0", .str "a.00", .str "a.4", .str "a.0.0", .str "abcdefghi.0", .str "A.0", .str "a.0[", .str "a.0]", .str "[]", .str "a.0[ ]"]] = s7
  have h7 : Deck s7 (k + 5) := by rw [← hs7]; exact h6.app _
  have e7 : s7[lws]? = some (.lst (ws.map D.str)) := by rw [← hs7]; exact get_app e6
  have d7 : s7[s6.length]? = some (.lst (oddW.map D.str)) := by rw [← hs7]; exact get_new
  have g7 : Grow [2, 3] st s7 := by rw [← hs7]; exact g06.trans (Grow.app _)
  have l67 : s6.length < s7.length := by rw [← hs7]; simp
  generalize s6.length = lod at nod d7 l67 ⊢
  clear hs7 hs5
  -- the first four
  have ac2 : As 2 (tx [c]) := ac.mono (by decide)
  have ab2 : As 2 (Str.ofString "[]") := ⟨by decide +kernel, by decide +kernel⟩
  simp only [o_add, o_minI, o_max]
  refine add3 hz ac2 hn fun y1 ay1 => ?_
  refine add2 hz hn fun y2 ay2 => ?_
  refine add3 hz ac2 hn fun y3 ay3 => ?_
  refine add3 hz ab2 hn fun y4 ay4 => ?_
  rw [o_mkLst (lm (by show 4 ≤ _; decide))]
  refine add3' hz hn fun y5 ay5 => ?_
  refine add2 hz hn fun y6 ay6 => ?_
  rw [o_mkLst (lm (by show 2 ≤ _; decide)), o_addL (get_app get_new) get_new (lm (by show 4 + 2 ≤ _; decide))]
  generalize hs8 : s7 ++ [O.lst [D.str y1, .str y2, .str y3, .str y4]] ++ [O.lst [.str y5, .str y6]] ++ [O.lst ([D.str y1, .str y2, .str y3, .str y4] ++ [.str y5, .str y6])] = s8
  have e5' : s8[(s7 ++ [O.lst [D.str y1, .str y2, .str y3, .str y4]] ++ [O.lst [.str y5, .str y6]]).length]? = some (.lst [D.str y1, .str y2, .str y3, .str y4, .str y5, .str y6]) := by rw [← hs8]; exact get_new
  have e8 : s8[lws]? = some (.lst (ws.map D.str)) := by rw [← hs8]; exact get_app (get_app (get_app e7))
  have d8 : s8[lod]? = some (.lst (oddW.map D.str)) := by rw [← hs8]; exact get_app (get_app (get_app d7))
  have g8 : Grow [2, 3] st s8 := by rw [← hs8]; exact ((g7.trans (Grow.app _)).trans (Grow.app _)).trans (Grow.app _)
  have h8 : Deck s8 (k + 5) := by rw [← hs8]; exact ((h7.app _).app _).app _
  generalize (s7 ++ [O.lst [D.str y1, .str y2, .str y3, .str y4]] ++ [O.lst [.str y5, .str y6]]).length = l5 at e5' ⊢
  clear hs8
  have kw : kk < ws.length := by omega
  have ek : ((kk : Nat) : Int) + 1 = ((kk + 1 : Nat) : Int) := rfl
  have c0 : cutD (ws.map D.str) none (some ((kk : Nat) : Int)) = (ws.take kk).map D.str := by rw [cutD_map, cutD_to (by omega)]
  have c1 : cutD (ws.map D.str) (some (((kk : Nat) : Int) + 1)) none = (ws.drop (kk + 1)).map D.str := by rw [ek, cutD_map, cutD_from (by omega)]
  have c2 : cutD (ws.map D.str) none (some (((kk : Nat) : Int) + 1)) = (ws.take (kk + 1)).map D.str := by rw [ek, cutD_map, cutD_to (by omega)]
  have c3 : cutD (ws.map D.str) (some ((kk : Nat) : Int)) none = (ws.drop kk).map D.str := by rw [cutD_map, cutD_from (by omega)]
  have l1 := List.length_take (l := ws) (i := kk)
  have l2 := List.length_drop (l := ws) (i := kk + 1)
  have l3 := List.length_take (l := ws) (i := kk + 1)
  have l4 := List.length_drop (l := ws) (i := kk)
  have jt := jl_take ws kk
  have jd := jl_drop1 ws kk
  have j1 := jl_one ws kk
  have sp1 : (Str.ofString " ").length = 1 := by decide +kernel
  have spa : ∀ c ∈ (Str.ofString " ").cps.toList, c < 128 := by decide +kernel
  refine ⟨rfl, ?_⟩
  rw [o_slL e8, c0, o_slL (get_app e8), c1, o_addL (get_app get_new) get_new (by rw [List.length_map, List.length_map]; exact lm (by omega)), ← List.map_append]
  refine o_join1 (n := 3 * n + 20) get_new sp1 spa (jl_ws (ws_take sa _) (ws_drop sa _)) (by rw [jl_app]; omega) (by omega) fun y7 ay7 => ?_
  generalize hs9 : s8 ++ [O.lst ((ws.take kk).map D.str)] ++ [O.lst ((ws.drop (kk + 1)).map D.str)] ++ [O.lst ((ws.take kk ++ ws.drop (kk + 1)).map D.str)] = s9
  have a9 : App s8 s9 := by rw [← hs9]; exact ((App.one _).trans (App.one _)).trans (App.one _)
  clear hs9
  refine ⟨rfl, ?_⟩
  rw [o_slL (a9.get e8), c2, o_slL (get_app (a9.get e8)), c3, o_addL (get_app get_new) get_new (by rw [List.length_map, List.length_map]; exact lm (by omega)), ← List.map_append]
  refine o_join1 (n := 3 * n + 20) get_new sp1 spa (jl_ws (ws_take sa _) (ws_drop sa _)) (by rw [jl_app]; omega) (by omega) fun y8 ay8 => ?_
  generalize hs10 : s9 ++ [O.lst ((ws.take (kk + 1)).map D.str)] ++ [O.lst ((ws.drop kk).map D.str)] ++ [O.lst ((ws.take (kk + 1) ++ ws.drop kk).map D.str)] = s10
  have a10 : App s8 s10 := by rw [← hs10]; exact a9.trans (((App.one _).trans (App.one _)).trans (App.one _))
  clear hs10 a9
  have asp : As 1 (Str.ofString " ") := ⟨by rw [sp1]; exact Nat.le_refl _, spa⟩
  have ay9 := as_app asp hz
  have ay10 := as_app hz asp
  rw [o_addS (by rw [sp1]; show _ ≤ 16777216; omega), o_addS (by rw [sp1]; show _ ≤ 16777216; omega), o_mkLst (lm (by show 4 ≤ _; decide)), o_addL (get_app (a10.get e5')) get_new (lm (by show 6 + 4 ≤ _; decide))]
  generalize Str.ofString " " ++ z = y9 at ay9 ⊢
  generalize z ++ Str.ofString " " = y10 at ay10 ⊢
  generalize hs11 : s10 ++ [O.lst [D.str y7, .str y8, .str y9, .str y10]] ++ [O.lst ([D.str y1, .str y2, .str y3, .str y4, .str y5, .str y6] ++ [.str y7, .str y8, .str y9, .str y10])] = s11
  have a11 : App s8 s11 := by rw [← hs11]; exact a10.trans ((App.one _).trans (App.one _))
  have e11 : s11[(s10 ++ [O.lst [D.str y7, .str y8, .str y9, .str y10]]).length]? = some (.lst [D.str y1, .str y2, .str y3, .str y4, .str y5, .str y6, .str y7, .str y8, .str y9, .str y10]) := by rw [← hs11]; exact get_new
  have n11 : (s10 ++ [O.lst [D.str y7, .str y8, .str y9, .str y10]]).length ∉ [2, 3] := by
    have := (h8.lt 3 (by simp))
    have := a10.len
    simp only [List.length_append, List.length_cons, List.length_nil, List.mem_cons, List.not_mem_nil, or_false]
    omega
  generalize (s10 ++ [O.lst [D.str y7, .str y8, .str y9, .str y10]]).length = l11 at e11 n11 ⊢
  clear hs11 a10
  have lb : (Str.ofString "[ ").length = 2 := by decide +kernel
  rw [o_rep (by rw [lb]; omega)]
  have ay11 : As (2 * n + 2) (Txt.replace z "[" "[ ") := as_repl (c := 91) hz lb (by decide +kernel)
  generalize Txt.replace z "[" "[ " = y11 at ay11 ⊢
  refine ⟨rfl, ?_⟩
  rw [o_slL (a11.get e8), c0]
  have h12 : Deck (s11 ++ [O.lst ((ws.take kk).map D.str)]) (k + 5) := (a11.deck h8).app _
  have nt := (a11.deck h8).new
  refine pick_lst h12 (by omega) (get_app (a11.get d8)) nod (by decide) (by decide) fun od s13 hod h13 g13 => ?_
  obtain ⟨ow, how, rfl⟩ := List.mem_map.mp hod
  have ao := oddW_ok ow how
  have t13 : s13[s11.length]? = some (.lst ((ws.take kk).map D.str)) := g13.2 _ _ nt get_new
  have w13 : s13[lws]? = some (.lst (ws.map D.str)) := g13.2 _ _ nw (get_app (a11.get e8))
  have l13 : s13[l11]? = some (.lst [D.str y1, .str y2, .str y3, .str y4, .str y5, .str y6, .str y7, .str y8, .str y9, .str y10]) := g13.2 _ _ n11 (get_app e11)
  have g013 : Grow [2, 3] st s13 := ((g8.trans a11.grow).trans (Grow.app _)).trans g13
  generalize s11.length = l12 at t13 ⊢
  rw [o_mkLst (lm (by show 1 ≤ _; decide)), o_addL (get_app t13) get_new (by rw [List.length_map]; exact lm (by show _ + 1 ≤ _; omega)), o_slL (get_app (get_app w13)), c3, o_addL (get_app get_new) get_new (by rw [List.length_append, List.length_map, List.length_map]; exact lm (by show _ + 1 + _ ≤ _; omega))]
  have em : (ws.take kk).map D.str ++ [D.str ow] ++ (ws.drop kk).map D.str = (ws.take kk ++ [ow] ++ ws.drop kk).map D.str := by rw [List.map_append, List.map_append]; rfl
  rw [em]
  have ja : jl [ow] = ow.length + 1 := by rw [jl_cons]; rfl
  have ao1 := ao.1
  refine o_join1 (n := 3 * n + 20) get_new sp1 spa (jl_ws (jl_ws (ws_take sa _) (fun y hy => by rw [List.mem_singleton.mp hy]; exact ao.2)) (ws_drop sa _)) (by rw [jl_app, jl_app, ja]; omega) (by omega) fun y12 ay12 => ?_
  generalize hs14 : s13 ++ [O.lst [D.str ow]] ++ [O.lst ((ws.take kk).map D.str ++ [D.str ow])] ++ [O.lst ((ws.drop kk).map D.str)] ++ [O.lst ((ws.take kk ++ [ow] ++ ws.drop kk).map D.str)] = s14
  have a14 : App s13 s14 := by rw [← hs14]; exact (((App.one _).trans (App.one _)).trans (App.one _)).trans (App.one _)
  clear hs14
  rw [o_mkLst (lm (by show 2 ≤ _; decide)), o_addL (get_app (a14.get l13)) get_new (lm (by show 10 + 2 ≤ _; decide))]
  have fin : ∀ d ∈ ([D.str y1, .str y2, .str y3, .str y4, .str y5, .str y6, .str y7, .str y8, .str y9, .str y10] ++ [.str y11, .str y12] : List D), ∃ y, d = .str y ∧ As (3 * n + 20) y := by
    intro d hd
    simp only [List.cons_append, List.nil_append, List.mem_cons, List.not_mem_nil, or_false] at hd
    rcases hd with rfl | rfl | rfl | rfl | rfl | rfl | rfl | rfl | rfl | rfl | rfl | rfl
    · exact ⟨_, rfl, ay1⟩
    · exact ⟨_, rfl, ay2⟩
    · exact ⟨_, rfl, ay3⟩
    · exact ⟨_, rfl, ay4⟩
    · exact ⟨_, rfl, ay5⟩
    · exact ⟨_, rfl, ay6⟩
    · exact ⟨_, rfl, ay7⟩
    · exact ⟨_, rfl, ay8⟩
    · exact ⟨_, rfl, ay9.mono (by omega)⟩
    · exact ⟨_, rfl, ay10.mono (by omega)⟩
    · exact ⟨_, rfl, ay11.mono (by omega)⟩
    · exact ⟨_, rfl, ay12⟩
  obtain ⟨d, e1, e2⟩ := atI_ofNat (ds := ([D.str y1, .str y2, .str y3, .str y4, .str y5, .str y6, .str y7, .str y8, .str y9, .str y10] ++ [.str y11, .str y12] : List D)) w0 (by show w < 12; exact w1)
  rw [o_lst get_new e1]
  obtain ⟨y, rfl, ay⟩ := fin d (List.mem_of_getElem? e2)
  exact q y _ ay (((a14.deck h13).app _).app _) (((g013.trans a14.grow).trans (Grow.app _)).trans (Grow.app _))
end Mi
set_option Elab.async false
set_option linter.all false
set_option maxRecDepth 100000
set_option maxHeartbeats 1000000
/-! Qp: deep texts. -/
namespace Mi
open PySem
def AS (x : D) : Prop := ∃ z, x = .str z ∧ As 4000 z
theorem o_mulA {st : Store} {Q : D → Store → Prop} {n : Nat} {z : Str} {i : Int} (hz : As n z) (h0 : 0 ≤ i) (h1 : i ≤ 4000) (hn : n ≤ 4000) (q : ∀ y, As (i.toNat * n) y → Q (.str y) st) : EvO (mulF (.str z) (.int i) st) Q := by
  have h := hz.1
  have : z.length * i.toNat ≤ 4000 * 4000 := Nat.mul_le_mul (by omega) (by omega)
  rw [o_mulS h0 (by omega) (by show _ ≤ 16777216; omega)]
  exact q _ (as_mul hz)
theorem deep_ok {st : Store} {k : Nat} {Q : D → Store → Prop} (h : Deck st k) (hk : k + 10 < 2 ^ 32) (q : ∀ l xs st', st'[l]? = some (.lst xs) → l ∉ [2, 3] → xs.length = 22 → (∀ x ∈ xs, AS x) → Grow [2, 3] st st' → Q (.ref l) st') : Ev (F__law_deep_ones [.ref 3] st) Q := by
  have lm : ∀ {j : Nat}, j ≤ 1000000 → j ≤ LIM := fun h => Nat.le_trans h (by decide)
  have fitS : ∀ {a b : Str} {n m : Nat}, As n a → As m b → n + m ≤ 1000000 → a.length + b.length ≤ LIM := fun ha hb h => by
    have := ha.1
    have := hb.1
    exact lm (by omega)
  simp only [F__law_deep_ones, ev_run, evs_nil, evs_seq, evs_ret, evs_retN, evs_expr, evs_if, evs_set, evs_par2, evs_par3, evs_sub, evs_match, evs_mnil, evs_mcons, evs_for, ev_c, ev_v, ev_op, ev_un, ev_val, ev_bl, ev_tnot, ev_tand, ev_tor, ev_not, ev_and, ev_or, ev_if, ev_chain, ev_nil, ev_cons, ev_b, ev_call, ev_callK, ev_none, ev_some, ev_sl, ev_mt, ev_knil, ev_kcons, ev_dic, ev_iseq, ev_lc, ev_yes, ev_range1, ev_enum, ev_ok, ev_okX, evs_raise, ev_inRg, List.map_cons, List.map_nil, List.length_cons, List.length_nil, List.replicate, List.cons_append, List.nil_append, List.getElem?_cons_zero, List.getElem?_cons_succ, List.set_cons_zero, List.set_cons_succ]
  rw [o_mkLst (by decide), o_mkTup (lm (by show 4 ≤ _; decide))]
  dsimp only [itOf]
  rw [ev_okX]
  dsimp only
  have nf := h.new
  have aa : As 2 (Str.ofString "a.") := ⟨by decide +kernel, by decide +kernel⟩
  have ab : As 3 (Str.ofString "b.1") := ⟨by decide +kernel, by decide +kernel⟩
  have alb : As 1 (Str.ofString "[") := ⟨by decide +kernel, by decide +kernel⟩
  have arb : As 1 (Str.ofString "]") := ⟨by decide +kernel, by decide +kernel⟩
  refine evs_forGo (fun i p s => ∃ l xs o2 o3, p = [some (.ref 3), some (.ref l), o2, o3] ∧ s[l]? = some (.lst xs) ∧ l ∉ [2, 3] ∧ st.length ≤ l ∧ xs.length = 4 * i ∧ (∀ x ∈ xs, AS x) ∧ Deck s (k + i) ∧ Grow [2, 3] st s) _ 0 _ _
    ⟨_, [], none, none, rfl, get_new, nf, Nat.le_refl _, rfl, by simp, h.app _, Grow.app _⟩ (fun _ _ _ _ _ _ => trivial) (fun i d p s _ hd hI => ?_) (fun p s hI => ?_)
  · obtain ⟨l, xs, o2, o3, rfl, el, nl, l0, hl, hx, hs, gs⟩ := hI
    have hi := (List.getElem?_eq_some_iff.mp hd).1
    rw [Nat.sub_zero] at hi hd
    have hi : i < 4 := hi
    obtain ⟨m, rfl, m0, m5⟩ : ∃ m : Int, d = .int m ∧ 1 ≤ m ∧ m ≤ 500 := by
      have := List.mem_of_getElem? hd
      simp only [List.mem_cons, List.not_mem_nil, or_false] at this
      rcases this with rfl | rfl | rfl | rfl
      · exact ⟨29, rfl, by decide, by decide⟩
      · exact ⟨30, rfl, by decide, by decide⟩
      · exact ⟨31, rfl, by decide, by decide⟩
      · exact ⟨500, rfl, by decide, by decide⟩
    refine ⟨_, rfl, ?_⟩
    simp only [ev_run, evs_nil, evs_seq, evs_ret, evs_retN, evs_expr, evs_if, evs_set, evs_par2, evs_par3, evs_sub, evs_match, evs_mnil, evs_mcons, evs_for, ev_c, ev_v, ev_op, ev_un, ev_val, ev_bl, ev_tnot, ev_tand, ev_tor, ev_not, ev_and, ev_or, ev_if, ev_chain, ev_nil, ev_cons, ev_b, ev_call, ev_callK, ev_none, ev_some, ev_sl, ev_mt, ev_knil, ev_kcons, ev_dic, ev_iseq, ev_lc, ev_yes, ev_range1, ev_enum, ev_ok, ev_okX, evs_raise, ev_inRg, List.map_cons, List.map_nil, List.length_cons, List.length_nil, List.replicate, List.cons_append, List.nil_append, List.getElem?_cons_zero, List.getElem?_cons_succ, List.set_cons_zero, List.set_cons_succ, gNameF]
    refine draw_ok hs (by omega) (by decide) (by decide) fun v s2 v0 v4 h2 g2 => ?_
    obtain ⟨av, lv⟩ := as_dig v0 v4
    have a1 := as_app aa av
    have a2 := as_app a1 alb
    rw [o_strI lv, o_addS (fitS aa av (by decide)), o_addS (fitS a1 alb (by decide))]
    generalize Str.ofString "a." ++ (toString v : Str) ++ Str.ofString "[" = one at a2 ⊢
    have el2 := g2.2 _ _ nl el
    have gs2 := gs.trans g2
    have m4 : m.toNat * (2 + 1 + 1) ≤ 500 * 4 := Nat.mul_le_mul_right _ (by omega)
    have m1 : m.toNat * 1 ≤ 500 := by omega
    refine o_mulA a2 (by omega) (by omega) (by decide) fun t1 at1 => ?_
    have b1 := as_app at1 ab
    rw [o_addS (fitS at1 ab (by omega))]
    refine o_mulA arb (by omega) (by omega) (by decide) fun u1 au1 => ?_
    have b2 := as_app b1 au1
    rw [o_addS (fitS b1 au1 (by omega))]
    refine o_mulA a2 (by omega) (by omega) (by decide) fun t2 at2 => ?_
    refine o_mulA arb (by omega) (by omega) (by decide) fun u2 au2 => ?_
    have b3 := as_app at2 au2
    rw [o_addS (fitS at2 au2 (by omega))]
    refine o_mulA a2 (by omega) (by omega) (by decide) fun t3 at3 => ?_
    have b4 := as_app at3 ab
    rw [o_addS (fitS at3 ab (by omega)), o_mkLst (lm (by show 3 ≤ _; decide)), o_addL (get_app el2) get_new (lm (by show _ + 3 ≤ _; omega))]
    have nn := (h2.app [O.lst [D.str (t1 ++ Str.ofString "b.1" ++ u1), .str (t2 ++ u2), .str (t3 ++ Str.ofString "b.1")]]).new
    refine ⟨ty_lst get_new, ?_⟩
    refine o_mulA a2 (by omega) (by omega) (by decide) fun t4 at4 => ?_
    have b5 := as_app at4 ab
    rw [o_addS (fitS at4 ab (by omega)), o_sub]
    have m2 : (m - 1).toNat * 1 ≤ 500 := by omega
    refine o_mulA arb (by omega) (by omega) (by decide) fun u4 au4 => ?_
    have b6 := as_app b5 au4
    rw [o_addS (fitS b5 au4 (by omega)), o_app get_new (by rw [List.length_append]; show _ + 3 < 16777216; omega)]
    refine ⟨_, _, _, _, rfl, get_set get_new, nn, ?_, ?_, fun x hxm => ?_, ((h2.app _).app _).set nn, ((gs2.trans (Grow.app _)).trans (Grow.app _)).put ?_⟩
    · rw [List.length_append]; have := gs2.1; omega
    · rw [List.length_append, List.length_append]; show _ + 3 + 1 = _; omega
    · simp only [List.mem_append, List.mem_cons, List.not_mem_nil, or_false] at hxm
      rcases hxm with (hxm | rfl | rfl | rfl) | rfl
      · exact hx x hxm
      · exact ⟨_, rfl, b2.mono (by omega)⟩
      · exact ⟨_, rfl, b3.mono (by omega)⟩
      · exact ⟨_, rfl, b4.mono (by omega)⟩
      · exact ⟨_, rfl, b6.mono (by omega)⟩
    · rw [List.length_append]; have := gs2.1; omega
  · obtain ⟨l, xs, o2, o3, rfl, el, nl, l0, hl, hx, hs, gs⟩ := hI
    have hl : xs.length = 16 := hl
    simp only [ev_run, evs_nil, evs_seq, evs_ret, evs_retN, evs_expr, evs_if, evs_set, evs_par2, evs_par3, evs_sub, evs_match, evs_mnil, evs_mcons, evs_for, ev_c, ev_v, ev_op, ev_un, ev_val, ev_bl, ev_tnot, ev_tand, ev_tor, ev_not, ev_and, ev_or, ev_if, ev_chain, ev_nil, ev_cons, ev_b, ev_call, ev_callK, ev_none, ev_some, ev_sl, ev_mt, ev_knil, ev_kcons, ev_dic, ev_iseq, ev_lc, ev_yes, ev_range1, ev_enum, ev_ok, ev_okX, evs_raise, ev_inRg, List.map_cons, List.map_nil, List.length_cons, List.length_nil, List.replicate, List.cons_append, List.nil_append, List.getElem?_cons_zero, List.getElem?_cons_succ, List.set_cons_zero, List.set_cons_succ]
    have c1 : As 4 (Str.ofString "a.0[") := ⟨by decide +kernel, by decide +kernel⟩
    have c2 : As 3 (Str.ofString "a.0") := ⟨by decide +kernel, by decide +kernel⟩
    have c3 : As 2 (Str.ofString "[]") := ⟨by decide +kernel, by decide +kernel⟩
    have c4 : As 5 (Str.ofString "a.0[]") := ⟨by decide +kernel, by decide +kernel⟩
    have c5 : As 1 (Str.ofString "a") := ⟨by decide +kernel, by decide +kernel⟩
    refine o_mulA c1 (by decide) (by decide) (by decide) fun t1 at1 => ?_
    refine o_mulA alb (by decide) (by decide) (by decide) fun t2 at2 => ?_
    refine o_mulA arb (by decide) (by decide) (by decide) fun t3 at3 => ?_
    refine o_mulA c3 (by decide) (by decide) (by decide) fun t4 at4 => ?_
    have b4 := as_app c2 at4
    rw [o_addS (fitS c2 at4 (by decide))]
    refine o_mulA arb (by decide) (by decide) (by decide) fun t5 at5 => ?_
    have b5 := as_app c4 at5
    rw [o_addS (fitS c4 at5 (by decide))]
    refine o_mulA c5 (by decide) (by decide) (by decide) fun t6 at6 => ?_
    rw [o_mkLst (lm (by show 6 ≤ _; decide)), o_addL (get_app el) get_new (lm (by show _ + 6 ≤ _; omega))]
    refine q _ _ _ get_new (hs.app _).new (by rw [List.length_append, hl]; rfl) (fun x hxm => ?_) ((gs.trans (Grow.app _)).trans (Grow.app _))
    simp only [List.mem_append, List.mem_cons, List.not_mem_nil, or_false] at hxm
    rcases hxm with hxm | rfl | rfl | rfl | rfl | rfl | rfl
    · exact hx x hxm
    · exact ⟨_, rfl, at1.mono (by decide)⟩
    · exact ⟨_, rfl, at2.mono (by decide)⟩
    · exact ⟨_, rfl, at3.mono (by decide)⟩
    · exact ⟨_, rfl, b4.mono (by decide)⟩
    · exact ⟨_, rfl, b5.mono (by decide)⟩
    · exact ⟨_, rfl, at6.mono (by decide)⟩
end Mi
set_option Elab.async false
set_option linter.all false
set_option maxRecDepth 100000
set_option maxHeartbeats 1000000
/-! Qq: the law k12. -/
namespace Mi
open PySem
theorem eq_dash {x : D} {st : Store} (h : x = .non ∨ (∃ b, x = .bl b) ∨ (∃ i, x = .int i) ∨ (∃ ds, x = .tup ds) ∨ ∃ l o, x = .ref l ∧ st[l]? = some o) : eqF x (.str (tx [45])) st = some false := by
  obtain ⟨n, e⟩ := eqn_pos
  unfold eqF
  rw [e]
  rcases h with rfl | ⟨b, rfl⟩ | ⟨i, rfl⟩ | ⟨ds, rfl⟩ | ⟨l, o, rfl, h⟩
  · rfl
  · rfl
  · rfl
  · rfl
  · unfold eqN
    dsimp only
    rw [h]
    cases o <;> rfl
theorem odd_kind {L : List Nat} {st : Store} {B : Bd} {n w : Nat} {x : D} (h : Val L st B n w x) (hs : ∀ z, x ≠ .str z) : ∃ k, k ∈ kinds ∧ k ≠ "str" ∧ ∀ st', Grow L st st' → kindD x st' = some k ∧ eqF x (.str (tx [45])) st' = some false := by
  rcases h.forms with rfl | ⟨b, rfl⟩ | ⟨i, rfl⟩ | ⟨z, rfl⟩ | ⟨ds, rfl⟩ | ⟨l, rfl, e⟩ | ⟨l, rfl, e⟩
  · exact ⟨"NoneType", by decide, by decide, fun st' _ => ⟨rfl, eq_dash (.inl rfl)⟩⟩
  · exact ⟨"bool", by decide, by decide, fun st' _ => ⟨rfl, eq_dash (.inr (.inl ⟨_, rfl⟩))⟩⟩
  · exact ⟨"int", by decide, by decide, fun st' _ => ⟨rfl, eq_dash (.inr (.inr (.inl ⟨_, rfl⟩)))⟩⟩
  · exact absurd rfl (hs z)
  · exact ⟨"tuple", by decide, by decide, fun st' _ => ⟨rfl, eq_dash (.inr (.inr (.inr (.inl ⟨_, rfl⟩))))⟩⟩
  · obtain ⟨nl, ⟨ds, e1⟩ | ⟨kvs, e1⟩⟩ := h.ref_inv
    · refine ⟨"list", by decide, by decide, fun st' g => ?_⟩
      have e2 := g.2 _ _ nl e1
      exact ⟨by simp only [kindD, e2], eq_dash (.inr (.inr (.inr (.inr ⟨l, _, rfl, e2⟩))))⟩
    · simp only [kindD, e1] at e; exact absurd (Option.some.inj e) (by decide)
  · obtain ⟨nl, ⟨ds, e1⟩ | ⟨kvs, e1⟩⟩ := h.ref_inv
    · simp only [kindD, e1] at e; exact absurd (Option.some.inj e) (by decide)
    · refine ⟨"dict", by decide, by decide, fun st' g => ?_⟩
      have e2 := g.2 _ _ nl e1
      exact ⟨by simp only [kindD, e2], eq_dash (.inr (.inr (.inr (.inr ⟨l, _, rfl, e2⟩))))⟩
/-- both readers answer alike -/
theorem both_ok {L : List Nat} {st : Store} {B : Bd} {n : Nat} {x : D} (h : Val L st B n 4000 x) : ∃ r, (∀ st', Val [2, 3] st' topB 97 90000 (told r)) ∧ (∀ (w : Int) (s : Store) (Q : D → Store → Prop), Grow L st s → (∀ st', App s st' → Q (told r) st') → Ev (F__law_heard [.int w, x] s) Q) ∧
    (∀ (s : Store) (Q : D → Store → Prop), Grow L st s → (∀ st', App s st' → Q (told r) st') → Ev (F__law_judged [x] s) Q) := by
  by_cases hs : ∃ z, x = .str z
  · obtain ⟨z, rfl⟩ := hs
    have hl : z.cps.toList.length ≤ 4000 := h.str_inv.2.1
    rw [← tx_of z]
    exact ⟨judge z.cps.toList, fun st' => told_ok hl, fun w s Q _ q => heard_text hl q, fun s Q _ q => law_judged hl q⟩
  · have hs : ∀ z, x ≠ .str z := fun z e => hs ⟨z, e⟩
    obtain ⟨k, h1, h2, h3⟩ := odd_kind h hs
    exact ⟨none, fun st' => told0_ok, fun w s Q g q => heard_odd (h3 s g).1 h1 h2 q, fun s Q g q => judged_odd (fun st' ap => h3 st' (g.trans ap.grow)) h1 h2 q⟩
theorem as_val {L : List Nat} {st : Store} {z : Str} (h : As 4000 z) : Val L st topB 4 4000 (.str z) := val_str (n := 3) h.2 h.1 (Nat.le_trans h.1 (by decide))
theorem Val.fresh {L : List Nat} {st : Store} {B : Bd} {n w l : Nat} {d : D} (h : Val L st B n w d) (hl : st.length ≤ l) : Val (l :: L) st B n w d := by
  obtain ⟨t, e, r⟩ := h
  refine ⟨t, datM_mono (Nat.le_refl _) (fun i o q => ?_) e, r⟩
  unfold look at q ⊢
  split at q
  · cases q
  · rename_i hi
    have := (List.getElem?_eq_some_iff.mp q).1
    rw [if_neg (by simp only [List.mem_cons, not_or]; exact ⟨by omega, hi⟩)]
    exact q
theorem Val.less {L L' : List Nat} {st : Store} {B : Bd} {n w : Nat} {d : D} (h : Val L st B n w d) (hl : ∀ i ∈ L', i ∈ L) : Val L' st B n w d := by
  obtain ⟨t, e, r⟩ := h
  refine ⟨t, datM_mono (Nat.le_refl _) (fun i o q => ?_) e, r⟩
  unfold look at q ⊢
  split at q
  · cases q
  · rename_i hi
    rw [if_neg fun z => hi (hl i z)]
    exact q
theorem law_true : ∀ ns : List Int, ns.length ≤ 63 → ∃ st, F_law [.scr ns] [] = .ok (.bl true) st := by
  intro ns hns
  suffices h : Ev (F_law [.scr ns] []) fun d _ => d = .bl true by
    obtain ⟨d, st, e, rfl⟩ := h.get
    exact ⟨st, e⟩
  have lm : ∀ {j : Nat}, j ≤ 1000000 → j ≤ LIM := fun h => Nat.le_trans h (by decide)
  simp only [F_law, ev_run, evs_nil, evs_seq, evs_ret, evs_retN, evs_expr, evs_if, evs_set, evs_par2, evs_par3, evs_sub, evs_match, evs_mnil, evs_mcons, evs_for, ev_c, ev_v, ev_op, ev_un, ev_val, ev_bl, ev_tnot, ev_tand, ev_tor, ev_not, ev_and, ev_or, ev_if, ev_chain, ev_nil, ev_cons, ev_b, ev_call, ev_callK, ev_none, ev_some, ev_sl, ev_mt, ev_knil, ev_kcons, ev_dic, ev_iseq, ev_lc, ev_yes, ev_range1, ev_enum, ev_ok, ev_okX, evs_raise, ev_inRg, List.map_cons, List.map_nil, List.length_cons, List.length_nil, List.replicate, List.cons_append, List.nil_append, List.getElem?_cons_zero, List.getElem?_cons_succ, List.set_cons_zero, List.set_cons_succ, wipeR]
  refine deck_ok hns fun st0 h0 => ?_
  rw [o_mkTup (by decide), o_mkTup (lm (by show 1 ≤ _; decide)), o_mkLst (by decide)]
  have b1 : st0.length < (st0 ++ [O.lst []]).length := by simp
  have e1 : (st0 ++ [O.lst []])[st0.length]? = some (.lst []) := get_new
  have n1 := h0.new
  have h1 := h0.app [O.lst []]
  generalize st0 ++ [O.lst []] = s1 at b1 e1 h1 ⊢
  generalize st0.length = l1 at b1 e1 n1 ⊢
  rw [o_mkLst (lm (by show 1 ≤ _; decide))]
  have b2 : s1.length < (s1 ++ [O.lst [D.str "a.0"]]).length := by simp
  have e2 : (s1 ++ [O.lst [D.str "a.0"]])[s1.length]? = some (.lst [D.str "a.0"]) := get_new
  have n2 := h1.new
  have h2 := h1.app [O.lst [D.str "a.0"]]
  have e12 := get_app (x := [O.lst [D.str "a.0"]]) e1
  generalize s1 ++ [O.lst [D.str "a.0"]] = s2 at b2 e2 h2 e12 ⊢
  generalize s1.length = l2 at b1 b2 e2 n2 ⊢
  rw [o_mkDic (by decide)]
  have e3 : (s2 ++ [O.dic (kvMerge [])])[s2.length]? = some (.dic (kvMerge [])) := get_new
  have b3 : s2.length < (s2 ++ [O.dic (kvMerge [])]).length := by simp
  have n3 := h2.new
  have h3 := h2.app [O.dic (kvMerge [])]
  have e13 := get_app (x := [O.dic (kvMerge [])]) e12
  have e23 := get_app (x := [O.dic (kvMerge [])]) e2
  generalize s2 ++ [O.dic (kvMerge [])] = s3 at b3 e3 h3 e13 e23 ⊢
  generalize s2.length = l3 at b2 b3 e3 n3 ⊢
  rw [o_mkDic (by decide)]
  have e4 : (s3 ++ [O.dic (kvMerge [(Sum.inr "a.0", D.int 0)])])[s3.length]? = some (.dic (kvMerge [(Sum.inr "a.0", D.int 0)])) := get_new
  have b4 : s3.length < (s3 ++ [O.dic (kvMerge [(Sum.inr "a.0", D.int 0)])]).length := by simp
  have n4 := h3.new
  have h4 := h3.app [O.dic (kvMerge [(Sum.inr "a.0", D.int 0)])]
  have e14 := get_app (x := [O.dic (kvMerge [(Sum.inr "a.0", D.int 0)])]) e13
  have e24 := get_app (x := [O.dic (kvMerge [(Sum.inr "a.0", D.int 0)])]) e23
  have e34 := get_app (x := [O.dic (kvMerge [(Sum.inr "a.0", D.int 0)])]) e3
  generalize s3 ++ [O.dic (kvMerge [(Sum.inr "a.0", D.int 0)])] = s4 at b4 e4 h4 e14 e24 e34 ⊢
  generalize s3.length = l4 at b3 b4 e4 n4 ⊢
  rw [o_mkTup (by decide), o_mkTup (lm (by show 3 ≤ _; decide)), o_mkTup (lm (by show 1 ≤ _; decide)), o_mkLst (lm (by show 16 ≤ _; decide))]
  have nf := h4.new
  generalize hds : [D.non, .bl true, .int 0, .int 7, .tup [], .tup [.str "a.0"], .ref l1, .ref l2, .ref l3, .ref l4, .tup [.tup [.str "a", .int 0, .tup []]], .str "", .str "-", .str "--", .str "- ", .str " -"] = ds
  have hlf : l1 < s4.length ∧ l2 < s4.length ∧ l3 < s4.length ∧ l4 < s4.length := by omega
  have elf : (s4 ++ [O.lst ds])[s4.length]? = some (.lst ds) := get_new
  have hd5 := h4.app [O.lst ds]
  have hval : ∀ x ∈ ds, Val [2, 3, s4.length] (s4 ++ [O.lst ds]) topB 4 4000 x := by
    have nl : ∀ {l : Nat}, l ∉ [2, 3] → l < s4.length → l ∉ [2, 3, s4.length] := fun h1 h2 hq => by
      simp only [List.mem_cons, List.not_mem_nil, or_false, not_or] at h1 hq
      rcases hq with h | h | h
      · exact h1.1 h
      · exact h1.2 h
      · omega
    have vs : ∀ {n : Nat} (z : Str), decide (z.length ≤ 3) = true → z.cps.toList.all (fun c => decide (c < 128)) = true → Val [2, 3, s4.length] (s4 ++ [O.lst ds]) topB (n + 1) 3 (.str z) := fun z h1 h2 => by
      have h1 := of_decide_eq_true h1
      refine val_str (fun c hc => ?_) h1 (Nat.le_trans h1 (by decide))
      have := List.all_eq_true.mp h2 c hc
      simpa using this
    have vi : ∀ {n : Nat} (i : Int), i.natAbs < 8 → Val [2, 3, s4.length] (s4 ++ [O.lst ds]) topB (n + 1) 3 (.int i) := fun i h => val_int (Nat.lt_of_lt_of_le h (by decide +kernel)) h
    have up : ∀ {n w : Nat} {x : D}, Val [2, 3, s4.length] (s4 ++ [O.lst ds]) topB n w x → n ≤ 4 → w ≤ 4000 → Val [2, 3, s4.length] (s4 ++ [O.lst ds]) topB 4 4000 x := fun h h1 h2 => h.mono Bd.le h1 h2
    have v0 : ∀ {n : Nat}, Vls [2, 3, s4.length] (s4 ++ [O.lst ds]) topB n 0 [] := Vls.nil
    intro x hx
    rw [← hds] at hx
    simp only [List.mem_cons, List.not_mem_nil, or_false] at hx
    rcases hx with rfl | rfl | rfl | rfl | rfl | rfl | rfl | rfl | rfl | rfl | rfl | rfl | rfl | rfl | rfl | rfl
    · exact val_non
    · exact val_bl true
    · exact up (vi (n := 0) 0 (by decide)) (by decide) (by decide)
    · exact up (vi (n := 0) 7 (by decide)) (by decide) (by decide)
    · exact up (val_tup (v0 (n := 0))) (by decide) (by decide)
    · exact up (val_tup (Vls.one (vs (n := 0) "a.0" (by decide +kernel) (by decide +kernel)))) (by decide) (by decide)
    · exact up (val_lst (nl n1 hlf.1) (get_app e14) (v0 (n := 0))) (by decide) (by decide)
    · exact up (val_lst (nl n2 hlf.2.1) (get_app e24) (Vls.one (vs (n := 0) "a.0" (by decide +kernel) (by decide +kernel)))) (by decide) (by decide)
    · exact up (val_dic0 (n := 0) (w := 0) (nl n3 hlf.2.2.1) (get_app e34)) (by decide) (by decide)
    · have e5 : (s4 ++ [O.lst ds])[l4]? = some (.dic [(Sum.inr "a.0", D.int 0)]) := get_app e4
      refine ⟨.dict [(.str "a.0", .int 0)], ?_, ?_, ?_⟩
      · simp only [datM, look, if_neg (nl n4 hlf.2.2.2), e5]
        rfl
      · exact ⟨⟨by decide +kernel, by decide⟩, by show (0 : Int).natAbs < 10 ^ 50; decide +kernel, trivial⟩
      · decide +kernel
    · exact up (val_tup (Vls.one (val_tup (Vls.cons (vs (n := 1) "a" (by decide +kernel) (by decide +kernel)) (Vls.cons (vi (n := 1) 0 (by decide)) (Vls.one (val_tup (v0 (n := 1))))))))) (by decide) (by decide)
    · exact up (vs (n := 0) "" (by decide +kernel) (by decide +kernel)) (by decide) (by decide)
    · exact up (vs (n := 0) "-" (by decide +kernel) (by decide +kernel)) (by decide) (by decide)
    · exact up (vs (n := 0) "--" (by decide +kernel) (by decide +kernel)) (by decide) (by decide)
    · exact up (vs (n := 0) "- " (by decide +kernel) (by decide +kernel)) (by decide) (by decide)
    · exact up (vs (n := 0) " -" (by decide +kernel) (by decide +kernel)) (by decide) (by decide)
  have hdl : ds.length = 16 := by rw [← hds]; rfl
  generalize s4 ++ [O.lst ds] = s5 at elf hd5 hval ⊢
  generalize s4.length = lf at nf hlf elf hval ⊢
  refine ⟨by decide, ?_⟩
  have i4 : (rgItems 0 (Int.toNat 4)).length = 4 := by simp [rgItems]
  have i15 : (rgItems 0 (Int.toNat 15)).length = 15 := by simp [rgItems]
  have i2 : (rgItems 0 (Int.toNat 2)).length = 2 := by simp [rgItems]
  refine evs_forGo (fun i p s => ∃ kk xs o3 o5 o6 o7, p = [some (.scr ns), some (.ref 3), some (.ref lf), o3, none, o5, o6, o7, none] ∧ Deck s kk ∧ kk ≤ i * 16000000 ∧ s[lf]? = some (.lst xs) ∧ xs.length = 16 + 16 * i ∧ (∀ x ∈ xs, Val [2, 3, lf] s topB 4 4000 x)) _ 0 _ _ ⟨_, _, none, none, none, none, rfl, hd5, Nat.zero_le _, elf, hdl, hval⟩ (fun _ _ _ _ _ _ => trivial) (fun i d p s _ hd hI => ?_) (fun p s hI => ?_)
  · obtain ⟨kk, xs, o3, o5, o6, o7, rfl, hs, hkk, els, hxl, hx⟩ := hI
    have hi := (List.getElem?_eq_some_iff.mp hd).1
    rw [Nat.sub_zero, i4] at hi
    have hLN : LN 7 = 15116535 := by decide
    refine ⟨_, rfl, ?_⟩
    simp only [ev_run, evs_nil, evs_seq, evs_ret, evs_retN, evs_expr, evs_if, evs_set, evs_par2, evs_par3, evs_sub, evs_match, evs_mnil, evs_mcons, evs_for, ev_c, ev_v, ev_op, ev_un, ev_val, ev_bl, ev_tnot, ev_tand, ev_tor, ev_not, ev_and, ev_or, ev_if, ev_chain, ev_nil, ev_cons, ev_b, ev_call, ev_callK, ev_none, ev_some, ev_sl, ev_mt, ev_knil, ev_kcons, ev_dic, ev_iseq, ev_lc, ev_yes, ev_range1, ev_enum, ev_ok, ev_okX, evs_raise, ev_inRg, List.map_cons, List.map_nil, List.length_cons, List.length_nil, List.replicate, List.cons_append, List.nil_append, List.getElem?_cons_zero, List.getElem?_cons_succ, List.set_cons_zero, List.set_cons_succ, gNameF]
    rw [o_mkLst (lm (by show 1 ≤ _; decide))]
    have hs1 := hs.app [O.lst [D.int 40]]
    have nl40 := hs.new
    have els1 := get_app (x := [O.lst [D.int 40]]) els
    have slt := (List.getElem?_eq_some_iff.mp els).1
    have x1 : ∀ x ∈ xs, Val (s.length :: [2, 3, lf]) (s ++ [O.lst [D.int 40]]) topB 4 4000 x := fun x hxm => ((hx x hxm).fresh (Nat.le_refl _)).grow (Grow.app _)
    have e40 : (s ++ [O.lst [D.int 40]])[s.length]? = some (.lst [D.int 40]) := get_new
    generalize s ++ [O.lst [D.int 40]] = t1 at hs1 els1 x1 e40 ⊢
    generalize s.length = l40 at nl40 slt e40 x1 ⊢
    refine records_ok 7 60 (by decide) (by rw [hLN]; decide) hs1 nl40 e40 (by rw [hLN]; omega) fun z t2 k2 i2' az ht2 hk2 _ g2 => ?_
    rw [hLN] at az hk2
    have els2 : t2[lf]? = some (.lst xs) := g2.2 _ _ (fun h => by
      simp only [List.mem_cons, List.not_mem_nil, or_false, not_or] at h nf
      rcases h with h | h | h
      · exact nf.1 h
      · exact nf.2 h
      · omega) els1
    have x2 : ∀ x ∈ xs, Val [2, 3, lf] t2 topB 4 4000 x := fun x hxm => ((x1 x hxm).grow (g2.weak fun i hi => by
      simp only [List.mem_cons, List.not_mem_nil, or_false] at hi ⊢
      rcases hi with h | h | h
      · exact .inr (.inl h)
      · exact .inr (.inr (.inl h))
      · exact .inl h)).less fun i hi => List.mem_cons_of_mem _ hi
    rw [o_slS (Nat.le_trans az.1 (by decide))]
    have ay := as_to (m := 3000) az
    have e3000 : ((3000 : Nat) : Int) = 3000 := rfl
    rw [e3000] at ay
    generalize L2.cutS z none (some 3000) = y at ay ⊢
    refine ⟨ty_lst els2, ?_⟩
    rw [o_app els2 (by rw [hxl]; show _ < 16777216; omega)]
    have hs3 := ht2.set (o := O.lst (xs ++ [D.str y])) nf
    have els3 : (t2.set lf (O.lst (xs ++ [D.str y])))[lf]? = some (.lst (xs ++ [D.str y])) := get_set els2
    have x3 : ∀ x ∈ xs ++ [D.str y], Val [2, 3, lf] (t2.set lf (O.lst (xs ++ [D.str y]))) topB 4 4000 x := fun x hxm => by
      rcases List.mem_append.mp hxm with hxm | hxm
      · exact (x2 x hxm).grow (Grow.set _ (by simp))
      · rw [List.mem_singleton.mp hxm]; exact as_val (ay.mono (by decide))
    generalize t2.set lf (O.lst (xs ++ [D.str y])) = t3 at hs3 els3 x3 ⊢
    refine ⟨by decide, ?_⟩
    refine evs_forGo (fun t p s => ∃ kk ys o6 o7, p = [some (.scr ns), some (.ref 3), some (.ref lf), some d, none, some (.str y), o6, o7, none] ∧ Deck s kk ∧ kk ≤ i * 16000000 + 15116535 + t * 13 ∧ s[lf]? = some (.lst ys) ∧ ys.length = 17 + 16 * i + t ∧ (∀ x ∈ ys, Val [2, 3, lf] s topB 4 4000 x)) _ 0 _ _ ⟨k2, _, o6, o7, rfl, hs3, by omega, els3, by rw [List.length_append, hxl]; show _ + 1 = _; omega, x3⟩ (fun _ _ _ _ _ _ => trivial) (fun t dt p s _ hdt hI => ?_) (fun p s hI => ?_)
    · obtain ⟨kk, ys, o6, o7, rfl, hs, hkk, els, hyl, hy⟩ := hI
      have ht := (List.getElem?_eq_some_iff.mp hdt).1
      rw [Nat.sub_zero, i15] at ht
      refine ⟨_, rfl, ?_⟩
      simp only [ev_run, evs_nil, evs_seq, evs_ret, evs_retN, evs_expr, evs_if, evs_set, evs_par2, evs_par3, evs_sub, evs_match, evs_mnil, evs_mcons, evs_for, ev_c, ev_v, ev_op, ev_un, ev_val, ev_bl, ev_tnot, ev_tand, ev_tor, ev_not, ev_and, ev_or, ev_if, ev_chain, ev_nil, ev_cons, ev_b, ev_call, ev_callK, ev_none, ev_some, ev_sl, ev_mt, ev_knil, ev_kcons, ev_dic, ev_iseq, ev_lc, ev_yes, ev_range1, ev_enum, ev_ok, ev_okX, evs_raise, ev_inRg, List.map_cons, List.map_nil, List.length_cons, List.length_nil, List.replicate, List.cons_append, List.nil_append, List.getElem?_cons_zero, List.getElem?_cons_succ, List.set_cons_zero, List.set_cons_succ, gNameF]
      refine bent_ok hs (by omega) ay (by decide) fun u t4 au h4 g4 => ?_
      refine ⟨ty_lst (g4.2 _ _ nf els), ?_⟩
      refine draw_ok h4 (by omega) (by decide) (by decide) fun r t5 r0 r1 h5 g5 => ?_
      rw [o_eqI, ev_bl]
      have fin : ∀ (v : Str) (t6 : Store) (k6 : Nat), As 4000 v → Deck t6 k6 → k6 ≤ kk + 13 → Grow [2, 3] s t6 → EvO (appF (.ref lf) [.str v] t6) fun _ st1 => ∃ kk ys o6 o7, [some (D.scr ns), some (.ref 3), some (.ref lf), some d, none, some (.str y), some dt, some (.str u), none] = [some (.scr ns), some (.ref 3), some (.ref lf), some d, none, some (.str y), o6, o7, none] ∧ Deck st1 kk ∧ kk ≤ i * 16000000 + 15116535 + (t + 1) * 13 ∧ st1[lf]? = some (.lst ys) ∧ ys.length = 17 + 16 * i + (t + 1) ∧ (∀ x ∈ ys, Val [2, 3, lf] st1 topB 4 4000 x) := by
        intro v t6 k6 av h6 hk6 g6
        have e6 := g6.2 _ _ nf els
        rw [o_app e6 (by rw [hyl]; show _ < 16777216; omega)]
        refine ⟨k6, _, _, _, rfl, h6.set nf, by omega, get_set e6, by rw [List.length_append, hyl]; rfl, fun x hxm => ?_⟩
        rcases List.mem_append.mp hxm with hxm | hxm
        · exact ((hy x hxm).grow (grow_l g6)).grow (Grow.set _ (by simp))
        · rw [List.mem_singleton.mp hxm]; exact as_val av
      have e4000 : ((4000 : Nat) : Int) = 4000 := rfl
      have au1 := au.1
      split
      · refine bent_ok h5 (by omega) au (by decide) fun v t6 av h6 g6 => ?_
        have av1 := av.1
        rw [o_slS (lm (by omega))]
        have a2 := as_to (m := 4000) av
        rw [e4000] at a2
        exact fin _ t6 _ a2 h6 (by omega) ((g4.trans g5).trans g6)
      · rw [o_slS (lm (by omega))]
        have a2 := as_to (m := 4000) au
        rw [e4000] at a2
        exact fin _ t5 _ a2 h5 (by omega) (g4.trans g5)
    · obtain ⟨kk, ys, o6, o7, rfl, hs, hkk, els, hyl, hy⟩ := hI
      rw [i15] at hkk hyl
      exact ⟨kk, ys, _, _, _, _, rfl, hs, by omega, els, by omega, hy⟩
  · obtain ⟨kk, xs, o3, o5, o6, o7, rfl, hs, hkk, els, hxl, hx⟩ := hI
    rw [i4] at hxl hkk
    simp only [ev_run, evs_nil, evs_seq, evs_ret, evs_retN, evs_expr, evs_if, evs_set, evs_par2, evs_par3, evs_sub, evs_match, evs_mnil, evs_mcons, evs_for, ev_c, ev_v, ev_op, ev_un, ev_val, ev_bl, ev_tnot, ev_tand, ev_tor, ev_not, ev_and, ev_or, ev_if, ev_chain, ev_nil, ev_cons, ev_b, ev_call, ev_callK, ev_none, ev_some, ev_sl, ev_mt, ev_knil, ev_kcons, ev_dic, ev_iseq, ev_lc, ev_yes, ev_range1, ev_enum, ev_ok, ev_okX, evs_raise, ev_inRg, List.map_cons, List.map_nil, List.length_cons, List.length_nil, List.replicate, List.cons_append, List.nil_append, List.getElem?_cons_zero, List.getElem?_cons_succ, List.set_cons_zero, List.set_cons_succ]
    refine deep_ok hs (by omega) fun ld ds2 s6 eld nld hl2 hx2 g6 => ?_
    have els6 := g6.2 _ _ nf els
    rw [o_addL els6 eld (lm (by omega))]
    have hx6 : ∀ x ∈ xs ++ ds2, Val [2, 3, lf] (s6 ++ [O.lst (xs ++ ds2)]) topB 4 4000 x := fun x hxm => by
      rcases List.mem_append.mp hxm with hxm | hxm
      · exact ((hx x hxm).grow (grow_l g6)).grow (Grow.app _)
      · obtain ⟨z, rfl, az⟩ := hx2 x hxm
        exact as_val az
    have e7 : (s6 ++ [O.lst (xs ++ ds2)])[s6.length]? = some (.lst (xs ++ ds2)) := get_new
    generalize xs ++ ds2 = es at hx6 e7 ⊢
    generalize s6 ++ [O.lst es] = s7 at hx6 e7 ⊢
    generalize s6.length = l7 at e7 ⊢
    refine ⟨by decide, ?_⟩
    refine evs_forGo (fun i p s => ∃ o3 o4 o5 o6 o7 o8, p = [some (.scr ns), some (.ref 3), some (.ref l7), o3, o4, o5, o6, o7, o8] ∧ App s7 s) _ 0 _ _ ⟨_, _, _, _, _, _, rfl, App.refl⟩ (fun _ _ _ _ _ _ => trivial) (fun i d p s _ hd hI => ?_) (fun p s hI => ?_)
    · obtain ⟨o3, o4, o5, o6, o7, o8, rfl, ap⟩ := hI
      obtain ⟨w, rfl⟩ : ∃ w : Int, d = .int w := by
        unfold rgItems at hd
        rw [List.getElem?_map] at hd
        obtain ⟨j, _, rfl⟩ := Option.map_eq_some_iff.mp hd
        exact ⟨_, rfl⟩
      refine ⟨_, rfl, ?_⟩
      simp only [ev_run, evs_nil, evs_seq, evs_ret, evs_retN, evs_expr, evs_if, evs_set, evs_par2, evs_par3, evs_sub, evs_match, evs_mnil, evs_mcons, evs_for, ev_c, ev_v, ev_op, ev_un, ev_val, ev_bl, ev_tnot, ev_tand, ev_tor, ev_not, ev_and, ev_or, ev_if, ev_chain, ev_nil, ev_cons, ev_b, ev_call, ev_callK, ev_none, ev_some, ev_sl, ev_mt, ev_knil, ev_kcons, ev_dic, ev_iseq, ev_lc, ev_yes, ev_range1, ev_enum, ev_ok, ev_okX, evs_raise, ev_inRg, List.map_cons, List.map_nil, List.length_cons, List.length_nil, List.replicate, List.cons_append, List.nil_append, List.getElem?_cons_zero, List.getElem?_cons_succ, List.set_cons_zero, List.set_cons_succ, gNameF]
      simp only [itOf, ap.get e7]
      rw [ev_okX]
      refine evs_forGo (fun j p s => ∃ o5 o8, p = [some (.scr ns), some (.ref 3), some (.ref l7), o3, some (.int w), o5, o6, o7, o8] ∧ App s7 s) _ 0 _ _ ⟨_, _, rfl, ap⟩ (fun j p s _ _ hI => by obtain ⟨_, _, _, h⟩ := hI; exact h.get e7) (fun j x p s _ hdj hI => ?_) (fun p s hI => ?_)
      · obtain ⟨o5, o8, rfl, ap⟩ := hI
        have hxv := hx6 x (List.mem_of_getElem? hdj)
        have hxs := hxv.grow ap.grow
        refine ⟨_, rfl, ?_⟩
        simp only [ev_run, evs_nil, evs_seq, evs_ret, evs_retN, evs_expr, evs_if, evs_set, evs_par2, evs_par3, evs_sub, evs_match, evs_mnil, evs_mcons, evs_for, ev_c, ev_v, ev_op, ev_un, ev_val, ev_bl, ev_tnot, ev_tand, ev_tor, ev_not, ev_and, ev_or, ev_if, ev_chain, ev_nil, ev_cons, ev_b, ev_call, ev_callK, ev_none, ev_some, ev_sl, ev_mt, ev_knil, ev_kcons, ev_dic, ev_iseq, ev_lc, ev_yes, ev_range1, ev_enum, ev_ok, ev_okX, evs_raise, ev_inRg, List.map_cons, List.map_nil, List.length_cons, List.length_nil, List.replicate, List.cons_append, List.nil_append, List.getElem?_cons_zero, List.getElem?_cons_succ, List.set_cons_zero, List.set_cons_succ, gNameF]
        refine repr_val hxs (by decide) (by decide) fun z hz => ?_
        obtain ⟨r, t1, t2, t3⟩ := both_ok hxv
        refine Ev.toX (t2 w s _ ap.grow fun s8 ap8 => ?_)
        refine repr_val (t1 s8) (by decide) (by decide) fun y hy => ?_
        refine Ev.toX (t3 s8 _ (ap.trans ap8).grow fun s9 ap9 => ?_)
        refine hy s9 ap9.grow ?_
        rw [o_opB neF_str, beq_self_eq_true, ev_bl, if_neg (by decide)]
        refine hz s9 (ap8.trans ap9).grow ?_
        rw [o_opB neF_str, beq_self_eq_true, ev_bl, if_neg (by decide)]
        exact ⟨_, _, rfl, (ap.trans ap8).trans ap9⟩
      · obtain ⟨o5, o8, rfl, ap⟩ := hI
        exact ⟨_, _, _, _, _, _, rfl, ap⟩
    · obtain ⟨o3, o4, o5, o6, o7, o8, rfl, ap⟩ := hI
      simp only [ev_run, evs_nil, evs_seq, evs_ret, evs_retN, evs_expr, evs_if, evs_set, evs_par2, evs_par3, evs_sub, evs_match, evs_mnil, evs_mcons, evs_for, ev_c, ev_v, ev_op, ev_un, ev_val, ev_bl, ev_tnot, ev_tand, ev_tor, ev_not, ev_and, ev_or, ev_if, ev_chain, ev_nil, ev_cons, ev_b, ev_call, ev_callK, ev_none, ev_some, ev_sl, ev_mt, ev_knil, ev_kcons, ev_dic, ev_iseq, ev_lc, ev_yes, ev_range1, ev_enum, ev_ok, ev_okX, evs_raise, ev_inRg, List.map_cons, List.map_nil, List.length_cons, List.length_nil, List.replicate, List.cons_append, List.nil_append, List.getElem?_cons_zero, List.getElem?_cons_succ, List.set_cons_zero, List.set_cons_succ]
end Mi
open PySem PySem.W PyProof.Rows
set_option Elab.async false
set_option maxRecDepth 100000 in
set_option maxHeartbeats 0 in
theorem PySem.Challenge.cw_breakins_k12_texts_of_no_story_holds : PySem.Challenge.rw_breakins_k12_texts_of_no_story.Holds := by
  w_on; o_law; k_head; (case hw => w_witness2)
  k_fill
  refine Mi.walkG (l := PySem.Challenge.rw_breakins_k12_texts_of_no_story) (k := 105) (x := "_law_script") rfl rfl ⟨rfl, by decide, by decide⟩ (by rfl) (fun w h Y => PySem.W.kIn_of Y) ?F
  case F =>
    intro w mg fa h KX G hmg
    refine' Mi.end_F hmg ⟨_, _, Mi.ff_mk KX G ?a0 ?l0 ?c0 ?k0, _, _, Mi.ff_mk KX G ?a1 ?l1 ?c1 ?k1, _, _, Mi.ff_mk KX G ?a2 ?l2 ?c2 ?k2, _, _, Mi.ff_mk KX G ?a3 ?l3 ?c3 ?k3, _, _, Mi.ff_mk KX G ?a4 ?l4 ?c4 ?k4, _, _, Mi.ff_mk KX G ?a5 ?l5 ?c5 ?k5, _, _, Mi.ff_mk KX G ?a6 ?l6 ?c6 ?k6, _, _, Mi.ff_mk KX G ?a7 ?l7 ?c7 ?k7, _, _, Mi.ff_mk KX G ?a8 ?l8 ?c8 ?k8, _, _, Mi.ff_mk KX G ?a9 ?l9 ?c9 ?k9, _, _, Mi.ff_mk KX G ?a10 ?l10 ?c10 ?k10, _, _, Mi.ff_mk KX G ?a11 ?l11 ?c11 ?k11, _, _, Mi.ff_mk KX G ?a12 ?l12 ?c12 ?k12, _, _, Mi.ff_mk KX G ?a13 ?l13 ?c13 ?k13, _, _, Mi.ff_mk KX G ?a14 ?l14 ?c14 ?k14, _, _, Mi.ff_mk KX G ?a15 ?l15 ?c15 ?k15, _, Mi.bc_mk KX G ?B_BreakError_a ?B_BreakError_k ?B_BreakError_r ?B_BreakError_s ?B_BreakError_v, _, _, _, Mi.xc_mk KX G ?X_InvalidText_a ?X_InvalidText_lC ?X_InvalidText_rV ?X_InvalidText_sa ?X_InvalidText_exC ?X_InvalidText_tyC ?X_InvalidText_kC ?X_InvalidText_hg ?X_InvalidText_hk ?X_InvalidText_hd ?X_InvalidText_ha ?X_InvalidText_hn ?X_InvalidText_ht ?X_InvalidText_hm ?X_InvalidText_iC ?X_InvalidText_iF ?X_InvalidText_l ?X_InvalidText_c ?X_InvalidText_k, ?h_InvalidText_h, _, Mi.cd_mk KX G ?D_BreakError_a ?D_BreakError_i ?D_BreakError_t, _, Mi.cd_mk KX G ?D_TooMany_a ?D_TooMany_i ?D_TooMany_t, _, Mi.cd_mk KX G ?D_TooGreat_a ?D_TooGreat_i ?D_TooGreat_t, _, Mi.cd_mk KX G ?D_NoStory_a ?D_NoStory_i ?D_NoStory_t, _, Mi.cd_mk KX G ?D_InvalidProgram_a ?D_InvalidProgram_i ?D_InvalidProgram_t, _, Mi.cd_mk KX G ?D_InvalidText_a ?D_InvalidText_i ?D_InvalidText_t, ?E_BreakError_h, ?s_InvalidText_BreakError_h, ?s_InvalidText_TooMany_h, ?r_InvalidText_TooMany_h, ?s_InvalidText_TooGreat_h, ?r_InvalidText_TooGreat_h, ?s_InvalidText_NoStory_h, ?r_InvalidText_NoStory_h, ?s_InvalidText_InvalidProgram_h, ?r_InvalidText_InvalidProgram_h, ?s_InvalidText_InvalidText_h, ?s_InvalidText_ValueError_h, PySem.W.mg_none_of KX G ?z0, PySem.W.mg_none_of KX G ?z1, PySem.W.mg_none_of KX G ?z2, PySem.W.mg_none_of KX G ?z3, PySem.W.mg_none_of KX G ?z4, PySem.W.mg_none_of KX G ?z5, PySem.W.mg_none_of KX G ?z6, PySem.W.mg_none_of KX G ?z7, PySem.W.mg_none_of KX G ?z8, PySem.W.mg_none_of KX G ?z9, PySem.W.mg_none_of KX G ?z10, PySem.W.mg_none_of KX G ?z11, Mi.gv_str (PySem.W.mg_of KX G ?gx0), Mi.gv_int (PySem.W.mg_of KX G ?gx1), Mi.gv_str (PySem.W.mg_of KX G ?gx2), Mi.gv_str (PySem.W.mg_of KX G ?gx3), Mi.gv_int (PySem.W.mg_of KX G ?gx4)⟩ Mi.law_true
    (case a0 => k_is); (case l0 => k_is); (case c0 => k_is); (case k0 => k_is)
    (case a1 => k_is); (case l1 => k_is); (case c1 => k_is); (case k1 => k_is)
    (case a2 => k_is); (case l2 => k_is); (case c2 => k_is); (case k2 => k_is)
    (case a3 => k_is); (case l3 => k_is); (case c3 => k_is); (case k3 => k_is)
    (case a4 => k_is); (case l4 => k_is); (case c4 => k_is); (case k4 => k_is)
    (case a5 => k_is); (case l5 => k_is); (case c5 => k_is); (case k5 => k_is)
    (case a6 => k_is); (case l6 => k_is); (case c6 => k_is); (case k6 => k_is)
    (case a7 => k_is); (case l7 => k_is); (case c7 => k_is); (case k7 => k_is)
    (case a8 => k_is); (case l8 => k_is); (case c8 => k_is); (case k8 => k_is)
    (case a9 => k_is); (case l9 => k_is); (case c9 => k_is); (case k9 => k_is)
    (case a10 => k_is); (case l10 => k_is); (case c10 => k_is); (case k10 => k_is)
    (case a11 => k_is); (case l11 => k_is); (case c11 => k_is); (case k11 => k_is)
    (case a12 => k_is); (case l12 => k_is); (case c12 => k_is); (case k12 => k_is)
    (case a13 => k_is); (case l13 => k_is); (case c13 => k_is); (case k13 => k_is)
    (case a14 => k_is); (case l14 => k_is); (case c14 => k_is); (case k14 => k_is)
    (case a15 => k_is); (case l15 => k_is); (case c15 => k_is); (case k15 => k_is)
    (case B_BreakError_a => k_is); (case B_BreakError_k => k_is); (case B_BreakError_r => k_is); (case B_BreakError_s => k_is); (case B_BreakError_v => k_is)
    (case X_InvalidText_a => k_is); (case X_InvalidText_lC => k_is); (case X_InvalidText_rV => rfl); (case X_InvalidText_sa => k_is); (case X_InvalidText_exC => k_is); (case X_InvalidText_tyC => k_is); (case X_InvalidText_kC => k_is); (case X_InvalidText_hg => k_is); (case X_InvalidText_hk => k_is); (case X_InvalidText_hd => k_is); (case X_InvalidText_ha => k_is); (case X_InvalidText_hn => k_is); (case X_InvalidText_ht => k_is); (case X_InvalidText_hm => k_is); (case X_InvalidText_iC => k_is); (case X_InvalidText_iF => k_is); (case X_InvalidText_l => k_is); (case X_InvalidText_c => k_is); (case X_InvalidText_k => k_is)
    (case h_InvalidText_h => k_is)
    (case D_BreakError_a => k_is); (case D_BreakError_i => k_is); (case D_BreakError_t => k_is)
    (case D_TooMany_a => k_is); (case D_TooMany_i => k_is); (case D_TooMany_t => k_is)
    (case D_TooGreat_a => k_is); (case D_TooGreat_i => k_is); (case D_TooGreat_t => k_is)
    (case D_NoStory_a => k_is); (case D_NoStory_i => k_is); (case D_NoStory_t => k_is)
    (case D_InvalidProgram_a => k_is); (case D_InvalidProgram_i => k_is); (case D_InvalidProgram_t => k_is)
    (case D_InvalidText_a => k_is); (case D_InvalidText_i => k_is); (case D_InvalidText_t => k_is)
    (case E_BreakError_h => k_is)
    (case s_InvalidText_BreakError_h => first | rfl | k_is)
    (case s_InvalidText_TooMany_h => first | rfl | k_is)
    (case r_InvalidText_TooMany_h => rfl)
    (case s_InvalidText_TooGreat_h => first | rfl | k_is)
    (case r_InvalidText_TooGreat_h => rfl)
    (case s_InvalidText_NoStory_h => first | rfl | k_is)
    (case r_InvalidText_NoStory_h => rfl)
    (case s_InvalidText_InvalidProgram_h => first | rfl | k_is)
    (case r_InvalidText_InvalidProgram_h => rfl)
    (case s_InvalidText_InvalidText_h => first | rfl | k_is)
    (case s_InvalidText_ValueError_h => first | rfl | k_is)
    (case z0 => k_is)
    (case z1 => k_is)
    (case z2 => k_is)
    (case z3 => k_is)
    (case z4 => k_is)
    (case z5 => k_is)
    (case z6 => k_is)
    (case z7 => k_is)
    (case z8 => k_is)
    (case z9 => k_is)
    (case z10 => k_is)
    (case z11 => k_is)
    (case gx0 => k_is)
    (case gx1 => k_is)
    (case gx2 => k_is)
    (case gx3 => k_is)
    (case gx4 => k_is)
