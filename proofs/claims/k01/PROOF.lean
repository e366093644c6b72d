import PyProof.Rows.All
import Wide.All
import OpenK.AllK
import Wide.FinOn
import HandS.ForMost
import HandS.ForExc
import HandS.IsInst
import HandS.TupAny
import HandS.TupMul
import HandS.Wide
import HandS.CallSlots
import HandS.ExcInit
import HandS.Style
import PyProof.EqAt
import PyProof.EqKinds
import PyProof.NeKinds
import HandS.StrMore
import PyProof.StrOps2
import KE.KRevSl
import PyProof.RowDictHeap
import HandS.FStr
import HandS.ExcIs
import HandS.ExcField
import KE.KExcIs
import HandS.Sort
import HandS.Replace
import HandS.ReplaceLit
import HandS.Exc
import PyProof.ExcBaseAll.LookupError
import PyProof.Rows.FactsExc_KeyError
import HandS.ExcBuiltin
import PyProof.ReprLen
import PySem.Challenge.RW_breakins_k01_errors
set_option Elab.async false
set_option linter.all false
set_option maxRecDepth 100000
set_option maxHeartbeats 4000000
/-! Mi0: plain data, stores, the relation to the hand layer's heap, lifting. -/
namespace Mi
open PySem PySem.Spec L2

/-! ### plain data -/
inductive D where
  | non
  | bl (b : Bool)
  | int (i : Int)
  | str (x : Str)
  | tup (xs : List D)
  | ref (l : Nat)
  | scr (xs : List Int)
  | exn (a dd : Addr) (ks : List Str) (xs : List D)

inductive O where
  | lst (xs : List D)
  | dic (kvs : List (Key × D))
  | err (cls : Str) (fs : List (Str × D))

abbrev Store := List O
structure Exc where
  cls : Str
  fs : List (Str × D)
inductive R (α : Type) where
  | ok (a : α) (st : Store)
  | exc (e : Exc) (st : Store)
  | bad
def bindR {α β : Type} (r : R α) (f : α → Store → R β) : R β := match r with
  | .ok a st => f a st
  | .exc e st => .exc e st
  | .bad => .bad
def optR {α : Type} (r : Option (α × Store)) : R α := match r with
  | some (a, st) => .ok a st
  | none => .bad
theorem bindR_ok {α β : Type} (a : α) (st : Store) (f : α → Store → R β) : bindR (.ok a st) f = f a st := rfl
theorem bindR_exc {α β : Type} (e : Exc) (st : Store) (f : α → Store → R β) : bindR (.exc e st) f = .exc e st := rfl
theorem bindR_bad {α β : Type} (f : α → Store → R β) : bindR .bad f = .bad := rfl
theorem optR_some {α : Type} (a : α) (st : Store) : optR (some (a, st)) = .ok a st := rfl
theorem optR_none {α : Type} : optR (none : Option (α × Store)) = .bad := rfl
abbrev Rho := List (Option D)
abbrev EF := Rho → Store → R D
abbrev LIM : Nat := 16777216
theorem lim_eq : sizeLine = LIM := by rw [sizeLine_eq]

/-! ### the relation -/
def FzL (K : PySem.W.Frag) (H : Hp) (a : Addr) (xs : List V) : Prop :=
  (∃ o, H a = some (.frz o (.lst xs))) ∨
    ∃ (o : Obj) (its : Array Value) (n : Nat), K.lookup a = some o ∧ o.cls = .type "list" ∧ o.dict = none ∧ o.data = .seq its n ∧ its.size ≤ sizeLine ∧ Vals xs its.toList
theorem FzL.seq {K : PySem.W.Frag} {H : Hp} {a : Addr} {xs : List V} (h : FzL K H a xs) : SqL K H a xs := by
  rcases h with ⟨o, h⟩ | h
  · exact .inl (.inr ⟨o, h⟩)
  · exact .inr h
mutual
def RV (K : PySem.W.Frag) (m : List Addr) (H : Hp) : D → V → Prop
  | .non, v => v = .non
  | .bl b, v => v = .bl b
  | .int i, v => v = .int i
  | .str x, v => v = .str x
  | .tup ds, v => ∃ a vs, v = .ref a ∧ SqT K H a vs ∧ RVs K m H ds vs
  | .ref l, v => ∃ a, v = .ref a ∧ m[l]? = some a
  | .scr ns, v => ∃ a, v = .ref a ∧ FzL K H a (ns.map V.int)
  | .exn a dd ks ds, v => v = .ref a ∧ ∃ zs : List V, H dd = some (.xd (ks.zip zs)) ∧ ks.length = zs.length ∧ RVs K m H ds zs
def RVs (K : PySem.W.Frag) (m : List Addr) (H : Hp) : List D → List V → Prop
  | [], vs => vs = []
  | d :: ds, vs => ∃ v vr, vs = v :: vr ∧ RV K m H d v ∧ RVs K m H ds vr
end
def RKs (K : PySem.W.Frag) (m : List Addr) (H : Hp) (kvs : List (Key × D)) (ws : List (Key × V)) : Prop :=
  kvs.map (·.1) = ws.map (·.1) ∧ RVs K m H (kvs.map (·.2)) (ws.map (·.2))
def RO (K : PySem.W.Frag) (m : List Addr) (H : Hp) (a : Addr) : O → Prop
  | .lst ds => ∃ vs, H a = some (.lst vs) ∧ RVs K m H ds vs
  | .dic kvs => ∃ ws, H a = some (.dK ws) ∧ RKs K m H kvs ws
  | .err cls fs => ∃ C, PySem.W.nsIn K PySem.mainGlobals cls = some (some (.ref C)) ∧ ((fs = [] ∧ H a = some (exo a C none)) ∨
      ∃ (d : Addr) (zs : List V), H a = some (exo a C (some d)) ∧ H d = some (.xd ((fs.map (·.1)).zip zs)) ∧ (fs.map (·.1)).length = zs.length ∧ RVs K m H (fs.map (·.2)) zs)
structure RSt (K : PySem.W.Frag) (m : List Addr) (H : Hp) (st : Store) : Prop where
  len : m.length = st.length
  nd : m.Nodup
  ob : ∀ (l : Nat) (a : Addr) (o : O), m[l]? = some a → st[l]? = some o → RO K m H a o
structure Ext (m : List Addr) (H : Hp) (m' : List Addr) (H' : Hp) : Prop where
  pre : ∃ n, m' = m ++ n ∧ ∀ a ∈ n, H a = none
  keep : ∀ a o, H a = some o → a ∉ m → H' a = some o
def RE (K : PySem.W.Frag) (m : List Addr) (H : Hp) (r : Rho) (s : St) : Prop :=
  ∀ (i : Nat) (d : D), r[i]? = some (some d) → ∃ v, s[i]? = some (some v) ∧ RV K m H d v
/-- an error, as it is known behind -/
def RX (cm : Str → Option Value) (K : PySem.W.Frag) (m : List Addr) (H : Hp) (e : Exc) (c : Value) (dd : Option Addr) : Prop :=
  cm e.cls = some c ∧ ∃ a fs, dd = some a ∧ H a = some (.xd fs) ∧ a ∉ m ∧ e.fs.map (·.1) = fs.map (·.1) ∧ RVs K m H (e.fs.map (·.2)) (fs.map (·.2))

section
variable {K : PySem.W.Frag} {m m' m'' : List Addr} {H H' H'' : Hp} {st st' : Store}
theorem RVs.len : ∀ {ds : List D} {vs : List V}, RVs K m H ds vs → ds.length = vs.length
  | [], vs, h => by simp only [RVs] at h; subst h; rfl
  | d :: ds, vs, h => by
    simp only [RVs] at h
    obtain ⟨v, vr, rfl, _, h⟩ := h
    simp only [List.length_cons, RVs.len h]
theorem RVs.get : ∀ {ds : List D} {vs : List V}, RVs K m H ds vs → ∀ {i : Nat} {d : D}, ds[i]? = some d → ∃ v, vs[i]? = some v ∧ RV K m H d v
  | [], vs, h, i, d, e => by simp at e
  | d0 :: ds, vs, h, i, d, e => by
    simp only [RVs] at h
    obtain ⟨v, vr, rfl, h0, h⟩ := h
    cases i with
    | zero => simp at e; subst e; exact ⟨v, by simp, h0⟩
    | succ i => simpa using RVs.get h (by simpa using e)
theorem RVs.get' : ∀ {ds : List D} {vs : List V}, RVs K m H ds vs → ∀ {i : Nat} {v : V}, vs[i]? = some v → ∃ d, ds[i]? = some d ∧ RV K m H d v
  | [], vs, h, i, d, e => by simp only [RVs] at h; subst h; simp at e
  | d0 :: ds, vs, h, i, d, e => by
    simp only [RVs] at h
    obtain ⟨v, vr, rfl, h0, h⟩ := h
    cases i with
    | zero => simp at e; subst e; exact ⟨d0, by simp, h0⟩
    | succ i => simpa using RVs.get' h (by simpa using e)
theorem RVs.append : ∀ {ds es : List D} {vs ws : List V}, RVs K m H ds vs → RVs K m H es ws → RVs K m H (ds ++ es) (vs ++ ws)
  | [], es, vs, ws, h, h' => by simp only [RVs] at h; subst h; simpa using h'
  | d :: ds, es, vs, ws, h, h' => by
    simp only [RVs] at h
    obtain ⟨v, vr, rfl, h0, h⟩ := h
    simp only [List.cons_append, RVs]
    exact ⟨v, vr ++ ws, rfl, h0, RVs.append h h'⟩
theorem RVs.drop : ∀ (n : Nat) {ds : List D} {vs : List V}, RVs K m H ds vs → RVs K m H (ds.drop n) (vs.drop n)
  | 0, _, _, h => by simpa using h
  | n + 1, [], vs, h => by simp only [RVs] at h; subst h; simp [RVs]
  | n + 1, d :: ds, vs, h => by
    simp only [RVs] at h
    obtain ⟨v, vr, rfl, h0, h⟩ := h
    simpa using RVs.drop n h
theorem RVs.take : ∀ (n : Nat) {ds : List D} {vs : List V}, RVs K m H ds vs → RVs K m H (ds.take n) (vs.take n)
  | 0, _, _, h => by simp [RVs]
  | n + 1, [], vs, h => by simp only [RVs] at h; subst h; simp [RVs]
  | n + 1, d :: ds, vs, h => by
    simp only [RVs] at h
    obtain ⟨v, vr, rfl, h0, h⟩ := h
    simp only [List.take_succ_cons, RVs]
    exact ⟨v, _, rfl, h0, RVs.take n h⟩
theorem RVs.one {d : D} {v : V} (h : RV K m H d v) : RVs K m H [d] [v] := by simp only [RVs]; exact ⟨v, [], rfl, h, rfl⟩
theorem RVs.nil : RVs K m H [] [] := by simp only [RVs]
theorem RVs.cons {d : D} {v : V} {ds : List D} {vs : List V} (h : RV K m H d v) (h' : RVs K m H ds vs) : RVs K m H (d :: ds) (v :: vs) := by simp only [RVs]; exact ⟨v, vs, rfl, h, h'⟩
theorem RVs.set : ∀ (n : Nat) {d : D} {v : V} {ds : List D} {vs : List V}, RV K m H d v → RVs K m H ds vs → RVs K m H (ds.set n d) (vs.set n v)
  | _, d, v, [], vs, _, h => by simp only [RVs] at h; subst h; simp [RVs]
  | 0, d, v, d0 :: ds, vs, r, h => by
    simp only [RVs] at h
    obtain ⟨v0, vr, rfl, h0, h⟩ := h
    simp only [List.set_cons_zero, RVs]
    exact ⟨v, _, rfl, r, h⟩
  | n + 1, d, v, d0 :: ds, vs, r, h => by
    simp only [RVs] at h
    obtain ⟨v0, vr, rfl, h0, h⟩ := h
    simp only [List.set_cons_succ, RVs]
    exact ⟨v0, _, rfl, h0, RVs.set n r h⟩
theorem RVs.reverse : ∀ {ds : List D} {vs : List V}, RVs K m H ds vs → RVs K m H ds.reverse vs.reverse
  | [], vs, h => by simp only [RVs] at h; subst h; simp [RVs]
  | d :: ds, vs, h => by
    simp only [RVs] at h
    obtain ⟨v, vr, rfl, h0, h⟩ := h
    simp only [List.reverse_cons]
    exact (RVs.reverse h).append (RVs.one h0)
theorem RVs.dropLast {ds : List D} {vs : List V} (h : RVs K m H ds vs) : RVs K m H ds.dropLast vs.dropLast := by
  rw [List.dropLast_eq_take, List.dropLast_eq_take, h.len]
  exact h.take _
theorem RVs.ints : ∀ {ns : List Int} {vs : List V}, RVs K m H (ns.map D.int) vs ↔ vs = ns.map V.int
  | [], vs => by simp [RVs]
  | n :: ns, vs => by
    simp only [List.map_cons, RVs, RV]
    constructor
    · rintro ⟨v, vr, rfl, rfl, h⟩; rw [RVs.ints.mp h]
    · rintro rfl; exact ⟨_, _, rfl, rfl, RVs.ints.mpr rfl⟩

/-- what stands at a known place -/
theorem RSt.at (r : RSt K m H st) {a : Addr} (h : a ∈ m) : ∃ (l : Nat) (o : O), m[l]? = some a ∧ st[l]? = some o ∧ RO K m H a o := by
  obtain ⟨l, hl, e⟩ := List.getElem_of_mem h
  have hl' : l < st.length := by rw [← r.len]; exact hl
  have e1 : m[l]? = some a := by rw [List.getElem?_eq_getElem hl, e]
  exact ⟨l, st[l], e1, List.getElem?_eq_getElem hl', r.ob l a _ e1 (List.getElem?_eq_getElem hl')⟩
theorem RO.some {a : Addr} {o : O} (h : RO K m H a o) : (∃ vs, H a = some (.lst vs)) ∨ (∃ ws, H a = some (.dK ws)) ∨ ∃ φ, H a = some (.ext φ) := by
  cases o with
  | lst ds => obtain ⟨vs, h, _⟩ := h; exact .inl ⟨vs, h⟩
  | dic ds => obtain ⟨vs, h, _⟩ := h; exact .inr (.inl ⟨vs, h⟩)
  | err cls fs =>
    obtain ⟨C, _, ⟨_, h⟩ | ⟨_, _, h, _⟩⟩ := h
    · exact .inr (.inr ⟨_, h⟩)
    · exact .inr (.inr ⟨_, h⟩)
theorem RSt.there (r : RSt K m H st) {a : Addr} (h : a ∈ m) : (∃ vs, H a = some (.lst vs)) ∨ (∃ ws, H a = some (.dK ws)) ∨ ∃ φ, H a = some (.ext φ) := by
  obtain ⟨l, o, _, _, h⟩ := r.at h
  exact h.some
theorem RSt.out (r : RSt K m H st) {a : Addr} {o : HO} (h : H a = some o) (h1 : ∀ vs, o ≠ .lst vs) (h2 : ∀ ws, o ≠ .dK ws) (h3 : ∀ φ, o ≠ .ext φ := by intro _ z; cases z) : a ∉ m := fun q => by
  rcases r.there q with ⟨vs, e⟩ | ⟨ws, e⟩ | ⟨φ, e⟩
  · rw [h] at e; cases e; exact h1 _ rfl
  · rw [h] at e; cases e; exact h2 _ rfl
  · rw [h] at e; cases e; exact h3 _ rfl
theorem RSt.fresh (r : RSt K m H st) {a : Addr} (h : H a = none) : a ∉ m := fun q => by
  rcases r.there q with ⟨vs, e⟩ | ⟨ws, e⟩ | ⟨φ, e⟩ <;> (rw [h] at e; cases e)
theorem RSt.lt (r : RSt K m H st) {l : Nat} {a : Addr} (h : m[l]? = some a) : ∃ o, st[l]? = some o := by
  have hl : l < m.length := (List.getElem?_eq_some_iff.mp h).1
  exact ⟨st[l]'(by rw [← r.len]; exact hl), List.getElem?_eq_getElem _⟩
theorem RSt.addr (r : RSt K m H st) {l : Nat} {o : O} (h : st[l]? = some o) : ∃ a, m[l]? = some a ∧ RO K m H a o := by
  have hl : l < st.length := (List.getElem?_eq_some_iff.mp h).1
  have e : m[l]? = some (m[l]'(by rw [r.len]; exact hl)) := List.getElem?_eq_getElem _
  exact ⟨_, e, r.ob l _ o e h⟩

theorem Ext.refl : Ext m H m H := ⟨⟨[], by simp, by simp⟩, fun _ _ h _ => h⟩
theorem Ext.idx (e : Ext m H m' H') {l : Nat} {a : Addr} (h : m[l]? = some a) : m'[l]? = some a := by
  obtain ⟨n, rfl, _⟩ := e.pre
  rw [List.getElem?_append_left (List.getElem?_eq_some_iff.mp h).1]; exact h
/-- what the relation of values leans on -/
def TF (o : HO) : Prop := (∃ xs, o = .tup xs) ∨ (∃ ob u, o = .frz ob u) ∨ ∃ fs, o = .xd fs
structure Ext0 (m : List Addr) (H : Hp) (m' : List Addr) (H' : Hp) : Prop where
  pre : ∃ n, m' = m ++ n
  tf : ∀ a o, H a = some o → TF o → H' a = some o
theorem Ext0.refl : Ext0 m H m H := ⟨⟨[], by simp⟩, fun _ _ h _ => h⟩
theorem Ext0.idx (e : Ext0 m H m' H') {l : Nat} {a : Addr} (h : m[l]? = some a) : m'[l]? = some a := by
  obtain ⟨n, rfl⟩ := e.pre
  rw [List.getElem?_append_left (List.getElem?_eq_some_iff.mp h).1]; exact h
theorem RSt.outT (r : RSt K m H st) {a : Addr} {o : HO} (h : H a = some o) (t : TF o) : a ∉ m := by
  rcases t with ⟨xs, rfl⟩ | ⟨ob, u, rfl⟩ | ⟨fs, rfl⟩
  · exact r.out h (fun _ z => by cases z) fun _ z => by cases z
  · exact r.out h (fun _ z => by cases z) fun _ z => by cases z
  · exact r.out h (fun _ z => by cases z) fun _ z => by cases z
theorem Ext.to0 (e : Ext m H m' H') (r : RSt K m H st) : Ext0 m H m' H' := ⟨let ⟨n, h, _⟩ := e.pre; ⟨n, h⟩, fun a o h t => e.keep a o h (r.outT h t)⟩
theorem SqT.ext (e : Ext0 m H m' H') {a : Addr} {xs : List V} (h : SqT K H a xs) : SqT K H' a xs := by
  rcases h with (h | ⟨o, h⟩) | h
  · exact .inl (.inl (e.tf _ _ h (.inl ⟨_, rfl⟩)))
  · exact .inl (.inr ⟨o, e.tf _ _ h (.inr (.inl ⟨_, _, rfl⟩))⟩)
  · exact .inr h
theorem FzL.ext (e : Ext0 m H m' H') {a : Addr} {xs : List V} (h : FzL K H a xs) : FzL K H' a xs := by
  rcases h with ⟨o, h⟩ | h
  · exact .inl ⟨o, e.tf _ _ h (.inr (.inl ⟨_, _, rfl⟩))⟩
  · exact .inr h
mutual
theorem RV.ext0 (e : Ext0 m H m' H') : ∀ (d : D) {v : V}, RV K m H d v → RV K m' H' d v
  | .non, v, h => by simpa only [RV] using h
  | .bl b, v, h => by simpa only [RV] using h
  | .int i, v, h => by simpa only [RV] using h
  | .str x, v, h => by simpa only [RV] using h
  | .tup ds, v, h => by
    simp only [RV] at h ⊢
    obtain ⟨a, vs, rfl, h1, h2⟩ := h
    exact ⟨a, vs, rfl, SqT.ext e h1, RVs.ext0 e ds h2⟩
  | .ref l, v, h => by
    simp only [RV] at h ⊢
    obtain ⟨a, rfl, h⟩ := h
    exact ⟨a, rfl, e.idx h⟩
  | .scr ns, v, h => by
    simp only [RV] at h ⊢
    obtain ⟨a, rfl, h⟩ := h
    exact ⟨a, rfl, FzL.ext e h⟩
  | .exn a dd ks ds, v, h => by
    simp only [RV] at h ⊢
    obtain ⟨rfl, zs, h1, h2, h3⟩ := h
    exact ⟨rfl, zs, e.tf _ _ h1 (.inr (.inr ⟨_, rfl⟩)), h2, RVs.ext0 e ds h3⟩
theorem RVs.ext0 (e : Ext0 m H m' H') : ∀ (ds : List D) {vs : List V}, RVs K m H ds vs → RVs K m' H' ds vs
  | [], vs, h => by simpa only [RVs] using h
  | d :: ds, vs, h => by
    simp only [RVs] at h ⊢
    obtain ⟨v, vr, rfl, h1, h2⟩ := h
    exact ⟨v, vr, rfl, RV.ext0 e d h1, RVs.ext0 e ds h2⟩
end
theorem RV.ext (r : RSt K m H st) (e : Ext m H m' H') (d : D) {v : V} (h : RV K m H d v) : RV K m' H' d v := RV.ext0 (e.to0 r) d h
theorem RVs.ext (r : RSt K m H st) (e : Ext m H m' H') (ds : List D) {vs : List V} (h : RVs K m H ds vs) : RVs K m' H' ds vs := RVs.ext0 (e.to0 r) ds h
theorem RE.ext0 (e : Ext0 m H m' H') {p : Rho} {s : L2.St} (h : RE K m H p s) : RE K m' H' p s := fun i d q => by
  obtain ⟨v, e1, e2⟩ := h i d q
  exact ⟨v, e1, RV.ext0 e d e2⟩
theorem RE.ext (r : RSt K m H st) (e : Ext m H m' H') {p : Rho} {s : St} (h : RE K m H p s) : RE K m' H' p s := fun i d q => by
  obtain ⟨v, e1, e2⟩ := h i d q
  exact ⟨v, e1, RV.ext r e d e2⟩
theorem Ext.trans (e : Ext m H m' H') (r : RSt K m' H' st) (e' : Ext m' H' m'' H'') : Ext m H m'' H'' := by
  obtain ⟨n, rfl, hn⟩ := e.pre
  obtain ⟨n', rfl, hn'⟩ := e'.pre
  refine ⟨⟨n ++ n', by simp, fun a ha => ?_⟩, fun a o h ha => ?_⟩
  · rcases List.mem_append.mp ha with h | h
    · exact hn a h
    · have h0 := hn' a h
      cases q : H a with
      | none => rfl
      | some o =>
        by_cases hm : a ∈ m
        · exact absurd (List.mem_append_left n hm) (r.fresh h0)
        · rw [e.keep a o q hm] at h0; cases h0
  · refine e'.keep a o (e.keep a o h ha) fun q => ?_
    rcases List.mem_append.mp q with q | q
    · exact ha q
    · rw [hn a q] at h; cases h
theorem RO.ext0 (e : Ext0 m H m' H') {a : Addr} {o : O} (h : RO K m H a o) (ha : H' a = H a) : RO K m' H' a o := by
  cases o with
  | lst ds => obtain ⟨vs, h1, h2⟩ := h; exact ⟨vs, ha.trans h1, RVs.ext0 e _ h2⟩
  | dic ds => obtain ⟨vs, h1, h2, h3⟩ := h; exact ⟨vs, ha.trans h1, h2, RVs.ext0 e _ h3⟩
  | err cls fs =>
    obtain ⟨C, hc, ⟨h0, h1⟩ | ⟨d, zs, h1, h2, h3, h4⟩⟩ := h
    · exact ⟨C, hc, .inl ⟨h0, ha.trans h1⟩⟩
    · exact ⟨C, hc, .inr ⟨d, zs, ha.trans h1, e.tf _ _ h2 (.inr (.inr ⟨_, rfl⟩)), h3, RVs.ext0 e _ h4⟩⟩
theorem RO.ext (r : RSt K m H st) (e : Ext m H m' H') {a : Addr} {o : O} (h : RO K m H a o) (ha : H' a = H a) : RO K m' H' a o := h.ext0 (e.to0 r) ha
/-- an address that is none of the known places stays none -/
theorem Ext.notin (e : Ext m H m' H') {a : Addr} {o : HO} (h : H a = some o) (ha : a ∉ m) : a ∉ m' := fun q => by
  obtain ⟨n, rfl, hn⟩ := e.pre
  rcases List.mem_append.mp q with q | q
  · exact ha q
  · rw [hn a q] at h; cases h
/-- what was not there may change -/
theorem Ext.touch (e : Ext m H m' H') {a : Addr} {o : HO} (h : H a = none) : Ext m H m' (upd H' a o) :=
  ⟨e.pre, fun b u hb hm => by rw [upd_ne (ne_of_none hb h)]; exact e.keep b u hb hm⟩
theorem ext0_touch {a : Addr} {o : HO} (h : ∀ u, H a = some u → ¬ TF u) {n : List Addr} : Ext0 m H (m ++ n) (upd H a o) :=
  ⟨⟨n, rfl⟩, fun b u hb t => by
    rw [upd_ne]
    · exact hb
    · rintro rfl; exact h u hb t⟩
/-- something beside the known places changes -/
theorem RSt.aside (r : RSt K m H st) {p : Addr} {o : HO} (hp : p ∉ m) (ht : ∀ u, H p = some u → ¬ TF u) : RSt K m (upd H p o) st := by
  have e : Ext0 m H m (upd H p o) := by simpa using ext0_touch (m := m) (o := o) ht (n := [])
  exact ⟨r.len, r.nd, fun l a u h1 h2 => (r.ob l a u h1 h2).ext0 e (upd_ne fun q => hp (q ▸ List.mem_of_getElem? h1))⟩
/-- something beside becomes a known place -/
theorem RSt.adopt (r : RSt K m H st) {p : Addr} {ho : HO} {o : O} (hp : p ∉ m) (ht : ∀ u, H p = some u → ¬ TF u) (new : RO K (m ++ [p]) (upd H p ho) p o) : RSt K (m ++ [p]) (upd H p ho) (st ++ [o]) := by
  have e : Ext0 m H (m ++ [p]) (upd H p ho) := ext0_touch ht
  refine ⟨by simp [r.len], ?_, fun l a u h1 h2 => ?_⟩
  · refine List.nodup_append.mpr ⟨r.nd, by simp, fun a ha b hb => ?_⟩
    rw [List.mem_singleton.mp hb]
    rintro rfl
    exact hp ha
  · by_cases hl : l < st.length
    · rw [List.getElem?_append_left hl] at h2
      rw [List.getElem?_append_left (by rw [r.len]; exact hl)] at h1
      exact (r.ob l a u h1 h2).ext0 e (upd_ne fun q => hp (q ▸ List.mem_of_getElem? h1))
    · have e : l = st.length := by
        have := (List.getElem?_eq_some_iff.mp h2).1
        rw [List.length_append, List.length_singleton] at this
        omega
      subst e
      rw [← r.len, List.getElem?_concat_length] at h1
      rw [List.getElem?_concat_length] at h2
      cases h1; cases h2
      exact new
/-- a new place at the end, after something new was adopted -/
theorem Ext.adopt (e : Ext m H m' H') {a : Addr} {o : HO} (h : H a = none) : Ext m H (m' ++ [a]) (upd H' a o) := by
  obtain ⟨n, rfl, hn⟩ := e.pre
  refine ⟨⟨n ++ [a], by simp, fun b hb => ?_⟩, (e.touch h).keep⟩
  rcases List.mem_append.mp hb with hb | hb
  · exact hn b hb
  · rw [List.mem_singleton.mp hb]; exact h

theorem nodupA {N : List Addr} (hN : N.Nodup) {i j : Nat} {x : Addr} (a : N[i]? = some x) (b : N[j]? = some x) : i = j := by
  obtain ⟨h1, e1⟩ := List.getElem?_eq_some_iff.mp a
  obtain ⟨h2, e2⟩ := List.getElem?_eq_some_iff.mp b
  exact (List.getElem_inj hN).mp (e1.trans e2.symm)
/-! ### heaps that change -/
theorem ext_fresh {p : Addr} {o : HO} (hp : H p = none) : Ext m H m (upd H p o) :=
  ⟨⟨[], by simp, by simp⟩, fun a u h _ => by rw [upd_ne (ne_of_none h hp)]; exact h⟩
/-- something new that is no known place -/
theorem RSt.beside (r : RSt K m H st) {p : Addr} {o : HO} (hp : H p = none) : RSt K m (upd H p o) st :=
  ⟨r.len, r.nd, fun l a u h1 h2 => (r.ob l a u h1 h2).ext r (ext_fresh hp) (upd_ne fun e => r.fresh hp (e ▸ List.mem_of_getElem? h1))⟩
theorem ext_push {p : Addr} {o : HO} (hp : H p = none) : Ext m H (m ++ [p]) (upd H p o) :=
  ⟨⟨[p], rfl, fun a ha => by rw [List.mem_singleton.mp ha]; exact hp⟩, fun a u h _ => by rw [upd_ne (ne_of_none h hp)]; exact h⟩
/-- a new known place -/
theorem RSt.push (r : RSt K m H st) {p : Addr} {ho : HO} {o : O} (hp : H p = none) (new : RO K (m ++ [p]) (upd H p ho) p o) : RSt K (m ++ [p]) (upd H p ho) (st ++ [o]) := by
  refine ⟨by simp [r.len], ?_, fun l a u h1 h2 => ?_⟩
  · refine List.nodup_append.mpr ⟨r.nd, by simp, fun a ha b hb => ?_⟩
    rw [List.mem_singleton.mp hb]
    rintro rfl
    exact r.fresh hp ha
  · by_cases hl : l < st.length
    · rw [List.getElem?_append_left hl] at h2
      rw [List.getElem?_append_left (by rw [r.len]; exact hl)] at h1
      exact (r.ob l a u h1 h2).ext r (ext_push hp) (upd_ne fun e => r.fresh hp (e ▸ List.mem_of_getElem? h1))
    · have e : l = st.length := by
        have := (List.getElem?_eq_some_iff.mp h2).1
        rw [List.length_append, List.length_singleton] at this
        omega
      subst e
      rw [← r.len, List.getElem?_concat_length] at h1
      rw [List.getElem?_concat_length] at h2
      cases h1; cases h2
      exact new
theorem ext_write {p : Addr} {o : HO} (hp : p ∈ m) : Ext m H m (upd H p o) :=
  ⟨⟨[], by simp, by simp⟩, fun a u h ha => by rw [upd_ne fun e => ha (by rw [e]; exact hp)]; exact h⟩
/-- a known place is changed -/
theorem RSt.write (r : RSt K m H st) {l : Nat} {p : Addr} {ho : HO} {o : O} (hl : m[l]? = some p) (new : RO K m (upd H p ho) p o) : RSt K m (upd H p ho) (st.set l o) := by
  refine ⟨by simp [r.len], r.nd, fun i a u h1 h2 => ?_⟩
  by_cases hi : l = i
  · subst hi
    rw [hl] at h1; cases h1
    have : l < st.length := by rw [← r.len]; exact (List.getElem?_eq_some_iff.mp hl).1
    rw [List.getElem?_set_self this] at h2; cases h2
    exact new
  · rw [List.getElem?_set_ne hi] at h2
    refine (r.ob i a u h1 h2).ext r (ext_write (List.mem_of_getElem? hl)) (upd_ne ?_)
    rintro rfl
    have h1' := hl
    have h1'' := h1
    exact hi (nodupA r.nd h1' h1'')
end

/-! ### lifting -/
section
variable (cm : Str → Option Value) (K : PySem.W.Frag)
def Post {α β : Type} (rel : List Addr → Hp → α → β → Prop) (W : Value → Option Addr → Hp → Prop) (m : List Addr) (H : Hp) (r : R α) (Q : β → Hp → Prop) : Prop :=
  match r with
  | .ok d st => ∀ m' H' v, Ext m H m' H' → RSt K m' H' st → rel m' H' d v → Q v H'
  | .exc e st => ∀ m' H' c dd, Ext m H m' H' → RSt K m' H' st → RX cm K m' H' e c dd → W c dd H'
  | .bad => False
/-- an expression, a test, an argument list -/
def LiftG {α β : Type} (rel : List Addr → Hp → α → β → Prop) (W : WX) (f : Rho → Store → R α) : St → Hp → (β → Hp → Prop) → Prop := fun s H Q =>
  ∃ m r st, RE K m H r s ∧ RSt K m H st ∧ Post cm K rel (fun c d H' => W c d s H') m H (f r st) Q
abbrev LiftE := LiftG cm K (RV K)
abbrev LiftT := LiftG cm K (fun _ _ (b b' : Bool) => b = b')
abbrev LiftA := LiftG cm K (RVs K)
/-- an operation, by values -/
def PostO {α β : Type} (rel : List Addr → Hp → α → β → Prop) (m : List Addr) (H : Hp) (r : Option (α × Store)) (Q : β → Hp → Prop) : Prop :=
  match r with
  | some (d, st) => ∀ m' H' v, Ext m H m' H' → RSt K m' H' st → rel m' H' d v → Q v H'
  | none => False
inductive SR where
  | nx (r : Rho) (st : Store)
  | rt (d : D) (st : Store)
  | bk (r : Rho) (st : Store)
  | ct (r : Rho) (st : Store)
  | xc (e : Exc) (r : Rho) (st : Store)
  | bad
abbrev SF := Rho → Store → SR
def PostS (W : WX) (m : List Addr) (H : Hp) (r : SR) (D : Ends) : Prop :=
  match r with
  | .nx p st => ∀ m' H' s, Ext m H m' H' → RSt K m' H' st → RE K m' H' p s → D.nx s H'
  | .rt d st => ∀ m' H' v, Ext m H m' H' → RSt K m' H' st → RV K m' H' d v → D.rt v H'
  | .bk p st => ∀ m' H' s, Ext m H m' H' → RSt K m' H' st → RE K m' H' p s → D.bk s H'
  | .ct p st => ∀ m' H' s, Ext m H m' H' → RSt K m' H' st → RE K m' H' p s → D.ct s H'
  | .xc e p st => ∀ m' H' s c dd, Ext m H m' H' → RSt K m' H' st → RE K m' H' p s → RX cm K m' H' e c dd → W c dd s H'
  | .bad => False
def LiftS (W : WX) (f : SF) : TS := fun D s H => ∃ m r st, RE K m H r s ∧ RSt K m H st ∧ PostS cm K W m H (f r st) D
end
section
variable {cm : Str → Option Value} {K : PySem.W.Frag} {α β γ δ : Type} {rel : List Addr → Hp → α → β → Prop} {rel' : List Addr → Hp → γ → δ → Prop} {W : Value → Option Addr → Hp → Prop} {m m1 : List Addr} {H H1 : Hp} {st1 : Store}
theorem Post.at {r : R α} {Q : β → Hp → Prop} (h : Post cm K rel W m H r Q) (e : Ext m H m1 H1) (rs : RSt K m1 H1 st1) : Post cm K rel W m1 H1 r Q := by
  cases r with
  | ok d st => exact fun m' H' v e' rs' rv => h m' H' v (e.trans rs e') rs' rv
  | exc x st => exact fun m' H' c dd e' rs' rx => h m' H' c dd (e.trans rs e') rs' rx
  | bad => exact h
theorem Post.split {r : R α} {g : α → Store → R γ} {Q' : β → Hp → Prop} {Q : δ → Hp → Prop} (h : Post cm K rel' W m H (bindR r g) Q)
    (k : ∀ d st1 m1 H1 v, r = .ok d st1 → Ext m H m1 H1 → RSt K m1 H1 st1 → rel m1 H1 d v → Post cm K rel' W m1 H1 (g d st1) Q → Q' v H1) : Post cm K rel W m H r Q' := by
  cases r with
  | ok d st => exact fun m' H' v e rs rv => k d st m' H' v rfl e rs rv (Post.at h e rs)
  | exc x st => exact h
  | bad => exact h
theorem PostO.of {r : Option (α × Store)} {Q : β → Hp → Prop} (h : Post cm K rel W m H (optR r) Q) : PostO K rel m H r Q := by
  cases r with
  | none => exact h
  | some p => exact h
theorem PostS.at {W : WX} {r : SR} {D : Ends} (h : PostS cm K W m H r D) (e : Ext m H m1 H1) (rs : RSt K m1 H1 st1) : PostS cm K W m1 H1 r D := by
  cases r with
  | nx p st => exact fun m' H' s e' rs' re => h m' H' s (e.trans rs e') rs' re
  | rt d st => exact fun m' H' s e' rs' re => h m' H' s (e.trans rs e') rs' re
  | bk p st => exact fun m' H' s e' rs' re => h m' H' s (e.trans rs e') rs' re
  | ct p st => exact fun m' H' s e' rs' re => h m' H' s (e.trans rs e') rs' re
  | xc e0 p st => exact fun m' H' s c dd e' rs' re rx => h m' H' s c dd (e.trans rs e') rs' re rx
  | bad => exact h
/-- an expression's result within a statement -/
def bindS (p : Rho) (r : R α) (f : α → Store → SR) : SR := match r with
  | .ok a st => f a st
  | .exc e st => .xc e p st
  | .bad => .bad
theorem bindS_ok (p : Rho) (a : α) (st : Store) (f : α → Store → SR) : bindS p (.ok a st) f = f a st := rfl
theorem bindS_bad (p : Rho) (f : α → Store → SR) : bindS p .bad f = .bad := rfl
theorem bindS_exc (p : Rho) (e : Exc) (st : Store) (f : α → Store → SR) : bindS p (.exc e st) f = .xc e p st := rfl
theorem PostS.split {W : WX} {p : Rho} {s : St} {st : Store} {r : R α} {g : α → Store → SR} {Q' : β → Hp → Prop} {D : Ends} (re : RE K m H p s) (rs0 : RSt K m H st) (h : PostS cm K W m H (bindS p r g) D)
    (k : ∀ d st1 m1 H1 v, r = .ok d st1 → Ext m H m1 H1 → RSt K m1 H1 st1 → rel m1 H1 d v → PostS cm K W m1 H1 (g d st1) D → Q' v H1) : Post cm K rel (fun c d H' => W c d s H') m H r Q' := by
  cases r with
  | ok d st => exact fun m' H' v e rs rv => k d st m' H' v rfl e rs rv (PostS.at h e rs)
  | exc x st => exact fun m' H' c dd e rs rx => h m' H' s c dd e rs (re.ext rs0 e) rx
  | bad => exact h
end
end Mi
set_option Elab.async false
set_option linter.all false
set_option maxRecDepth 100000
set_option maxHeartbeats 4000000
/-! Mi1: expressions. -/
namespace Mi
open PySem PySem.Spec L2

/-! ### judgements -/
def DE (cm : Str → Option Value) (W : WX) (X : Cx) (e : Expr) (f : EF) : Prop := PE X e (LiftE cm X.K W f)
abbrev TF1 := Rho → Store → R Bool
abbrev AF := Rho → Store → R (List D)
def DT (cm : Str → Option Value) (W : WX) (X : Cx) (e : Expr) (f : TF1) : Prop := PT X e (LiftT cm X.K W f)
def DW (cm : Str → Option Value) (W : WX) (X : Cx) (e : Expr) (f : TF1) : Prop := PW X e (LiftT cm X.K W f)
def DA (cm : Str → Option Value) (W : WX) (X : Cx) (es : List Expr) (f : AF) : Prop := PA X es (LiftA cm X.K W f)
def DS (cm : Str → Option Value) (W : WX) (X : Cx) (s : Stmt) (f : SF) : Prop := PS X s (LiftS cm X.K W f)
def DSs (cm : Str → Option Value) (W : WX) (X : Cx) (s : List Stmt) (f : SF) : Prop := PSs X s (LiftS cm X.K W f)
section
variable {X : Cx}
theorem peI {e : Expr} {t t' : TE} (h : PE X e t) (i : ∀ s H Q, t' s H Q → t s H Q) : PE X e t' := ⟨fun pins s σ H Q I q => h.run pins s σ H Q I (i _ _ _ q)⟩
theorem ptI {e : Expr} {t t' : TT} (h : PT X e t) (i : ∀ s H Q, t' s H Q → t s H Q) : PT X e t' := ⟨fun pins s σ H Q I q => h.run pins s σ H Q I (i _ _ _ q)⟩
theorem pwI {e : Expr} {t t' : TT} (h : PW X e t) (i : ∀ s H Q, t' s H Q → t s H Q) : PW X e t' := ⟨fun wh pins s σ H Q I q => h.run wh pins s σ H Q I (i _ _ _ q)⟩
theorem paI {e : List Expr} {t t' : TA} (h : PA X e t) (i : ∀ s H Q, t' s H Q → t s H Q) : PA X e t' := ⟨fun pos pins s σ H Q I q => h.run pos pins s σ H Q I (i _ _ _ q)⟩
theorem psI {e : Stmt} {t t' : TS} (h : PS X e t) (i : ∀ D s H, t' D s H → t D s H) : PS X e t' := ⟨fun pins s σ H Q I q => h.run pins s σ H Q I (i _ _ _ q)⟩
theorem pssI {e : List Stmt} {t t' : TS} (h : PSs X e t) (i : ∀ D s H, t' D s H → t D s H) : PSs X e t' := ⟨fun pins s σ H Q I q => h.run pins s σ H Q I (i _ _ _ q)⟩
end

/-! ### the functions -/
def eVar (i : Nat) : EF := fun p st => match p[i]? with
  | some (some d) => .ok d st
  | _ => .bad
def eC (d : D) : EF := fun _ st => .ok d st
def eOp (g : D → D → Store → Option (D × Store)) (a b : EF) : EF := fun p st => bindR (a p st) fun x st1 => bindR (b p st1) fun y st2 => optR (g x y st2)
def eUn (g : D → Store → Option (D × Store)) (a : EF) : EF := fun p st => bindR (a p st) fun x st1 => optR (g x st1)
def blR (x : D) (st : Store) : R Bool := match x with
  | .bl b => .ok b st
  | _ => .bad
/-- an expression as a test -/
def tVal (a : EF) : TF1 := fun p st => bindR (a p st) blR
def tNotF (a : TF1) : TF1 := fun p st => bindR (a p st) fun b st1 => .ok (!b) st1
def tAndF (a b : TF1) : TF1 := fun p st => bindR (a p st) fun x st1 => if x = true then b p st1 else .ok false st1
def tOrF (a b : TF1) : TF1 := fun p st => bindR (a p st) fun x st1 => if x = true then .ok true st1 else b p st1
def eNot (a : EF) : EF := fun p st => bindR (tVal a p st) fun b st1 => .ok (.bl (!b)) st1
def eAnd (a b : EF) : EF := fun p st => bindR (tVal a p st) fun x st1 => if x = true then b p st1 else .ok (.bl false) st1
def eOr (a b : EF) : EF := fun p st => bindR (tVal a p st) fun x st1 => if x = true then .ok (.bl true) st1 else b p st1
def eIf (t : TF1) (a b : EF) : EF := fun p st => bindR (t p st) fun x st1 => if x = true then a p st1 else b p st1
def eChain (g g' : D → D → Store → Option (D × Store)) (a b c : EF) : EF := fun p st => bindR (a p st) fun x st1 => bindR (b p st1) fun y st2 =>
  bindR (optR (g x y st2)) fun z st3 => bindR (blR z st3) fun k st4 => if k = true then bindR (c p st4) fun w st5 => optR (g' y w st5) else .ok (.bl false) st4
def aNil : AF := fun _ st => .ok [] st
def aCons (a : EF) (r : AF) : AF := fun p st => bindR (a p st) fun x st1 => bindR (r p st1) fun xs st2 => .ok (x :: xs) st2
def alloc (o : O) (st : Store) : Option (D × Store) := some (.ref st.length, st ++ [o])
def mkTup (xs : List D) (st : Store) : Option (D × Store) := if xs.length ≤ LIM then some (.tup xs, st) else none
def mkLst (xs : List D) (st : Store) : Option (D × Store) := if xs.length ≤ LIM then alloc (.lst xs) st else none
/-- a call by the values of its arguments, that raises nothing -/
def eB (g : List D → Store → Option (D × Store)) (a : AF) : EF := fun p st => bindR (a p st) fun xs st1 => optR (g xs st1)
/-- a call by the values of its arguments -/
abbrev FnF := List D → Store → R D
def eCall (F : FnF) (a : AF) : EF := fun p st => bindR (a p st) fun xs st1 => F xs st1
/-- a method's call -/
def eM (g : D → List D → Store → Option (D × Store)) (o : EF) (a : AF) : EF := fun p st => bindR (o p st) fun x st1 => bindR (a p st1) fun xs st2 => optR (g x xs st2)

/-! ### operations on values -/
def OpS (X : Cx) (f : Value → Value → Sem Value) (g : D → D → Store → Option (D × Store)) : Prop :=
  OpR X f fun x y H Q => ∃ m st dx dy, RSt X.K m H st ∧ RV X.K m H dx x ∧ RV X.K m H dy y ∧ PostO X.K (RV X.K) m H (g dx dy st) Q
def UnS (X : Cx) (f : Value → Sem Value) (g : D → Store → Option (D × Store)) : Prop :=
  UnR X f fun x H Q => ∃ m st dx, RSt X.K m H st ∧ RV X.K m H dx x ∧ PostO X.K (RV X.K) m H (g dx st) Q
def CallS (X : Cx) (f : Value) (g : List D → Store → Option (D × Store)) : Prop :=
  CallR X f fun xs H Q => ∃ m st ds, RSt X.K m H st ∧ RVs X.K m H ds xs ∧ PostO X.K (RV X.K) m H (g ds st) Q
def MtS (X : Cx) (id : String) (g : D → List D → Store → Option (D × Store)) : Prop :=
  MtR X id fun x xs H Q => ∃ m st dx ds, RSt X.K m H st ∧ RV X.K m H dx x ∧ RVs X.K m H ds xs ∧ PostO X.K (RV X.K) m H (g dx ds st) Q
def IxS (X : Cx) (g : D → D → Store → Option (D × Store)) : Prop :=
  IxR X fun x y H Q => ∃ m st dx dy, RSt X.K m H st ∧ RV X.K m H dx x ∧ RV X.K m H dy y ∧ PostO X.K (RV X.K) m H (g dx dy st) Q
section
variable {K : PySem.W.Frag} {m : List Addr} {H : Hp} {st : Store} {α β : Type} {rel : List Addr → Hp → α → β → Prop}
theorem postO_same {Q : β → Hp → Prop} {d : α} {v : β} (rs : RSt K m H st) (h : PostO K rel m H (some (d, st)) Q) (r : rel m H d v) : Q v H := h m H v Ext.refl rs r
theorem postO_alloc {Q : V → Hp → Prop} {o : O} {p : Addr} {ho : HO} (rs : RSt K m H st) (h : PostO K (RV K) m H (alloc o st) Q) (hp : H p = none) (new : RO K (m ++ [p]) (upd H p ho) p o) : Q (.ref p) (upd H p ho) :=
  h _ _ _ (ext_push hp) (rs.push hp new) (by simp only [RV]; exact ⟨p, rfl, by rw [← rs.len, List.getElem?_concat_length]⟩)
theorem ext0_push {p : Addr} {o : HO} (hp : H p = none) : Ext0 m H (m ++ [p]) (upd H p o) := ext0_touch fun u h => by rw [hp] at h; cases h
theorem postO_lst {Q : V → Hp → Prop} {ds : List D} {vs : List V} {p : Addr} (rs : RSt K m H st) (h : PostO K (RV K) m H (alloc (.lst ds) st) Q) (hp : H p = none) (r : RVs K m H ds vs) : Q (.ref p) (upd H p (.lst vs)) :=
  postO_alloc rs h hp ⟨vs, upd_same, RVs.ext0 (ext0_push hp) _ r⟩
theorem postO_tup {Q : V → Hp → Prop} {ds : List D} {vs : List V} {p : Addr} (rs : RSt K m H st) (h : PostO K (RV K) m H (some (.tup ds, st)) Q) (hp : H p = none) (r : RVs K m H ds vs) : Q (.ref p) (upd H p (.tup vs)) :=
  h _ _ _ (ext_fresh hp) (rs.beside hp) (by simp only [RV]; exact ⟨p, vs, rfl, .inl (.inl upd_same), RVs.ext rs (ext_fresh hp) _ r⟩)
theorem postO_write {Q : β → Hp → Prop} {l : Nat} {p : Addr} {ho : HO} {o : O} {d : α} {v : β} (rs : RSt K m H st) (h : PostO K rel m H (some (d, st.set l o)) Q) (hl : m[l]? = some p) (new : RO K m (upd H p ho) p o) (r : rel m (upd H p ho) d v) : Q v (upd H p ho) :=
  h _ _ _ (ext_write (List.mem_of_getElem? hl)) (rs.write hl new) r
theorem RSt.lst {l : Nat} {a : Addr} {ds : List D} (rs : RSt K m H st) (hl : m[l]? = some a) (h : st[l]? = some (.lst ds)) : ∃ vs, H a = some (.lst vs) ∧ RVs K m H ds vs := rs.ob l a _ hl h
theorem RSt.dic {l : Nat} {a : Addr} {ds : List (Key × D)} (rs : RSt K m H st) (hl : m[l]? = some a) (h : st[l]? = some (.dic ds)) : ∃ ws, H a = some (.dK ws) ∧ RKs K m H ds ws := rs.ob l a _ hl h
end

/-! ### expressions -/
section
variable {cm : Str → Option Value} {W : WX} {X : Cx} {a b c e : Expr} {fa fb fc : EF} {pos : Pos}
theorem de_var (i : Nat) {x : Str} (hN : X.N[i]? = some x := by rfl) (hv : Vis X.env.scope x := by first | exact Or.inl rfl | exact Or.inr (Or.inl rfl) | exact Or.inr (Or.inr rfl)) (hd : (x == ("__debug__" : Str)) = false := by decide)
    (hcd : (x == ("__classdict__" : Str)) = false := by decide) : DE cm W X (.Name x pos) (eVar i) := peI (pe_var hN hv hd hcd) fun s H Q h => by
  obtain ⟨m, p, st, re, rs, h⟩ := h
  unfold eVar at h
  cases q : p[i]? with
  | none => rw [q] at h; exact h.elim
  | some o =>
    cases o with
    | none => rw [q] at h; exact h.elim
    | some d =>
      rw [q] at h
      obtain ⟨v, e1, e2⟩ := re i d q
      exact ⟨v, e1, h m H v Ext.refl rs e2⟩
/-- a constant -/
theorem de_c {v : V} {d : D} (h : PE X e (tC v)) (r : ∀ m H, RV X.K m H d v) : DE cm W X e (eC d) := peI h fun s H Q h => by
  obtain ⟨m, p, st, re, rs, h⟩ := h
  exact h m H v Ext.refl rs (r m H)
theorem de_int {i j} : DE cm W X (.Constant (.int i) j pos) (eC (.int i)) := de_c pe_int fun _ _ => by simp [RV]
theorem de_bl {i j} : DE cm W X (.Constant (.bool i) j pos) (eC (.bl i)) := de_c pe_bl fun _ _ => by simp [RV]
theorem de_non {j} : DE cm W X (.Constant .none j pos) (eC .non) := de_c pe_non fun _ _ => by simp [RV]
theorem de_str {i j} : DE cm W X (.Constant (.str i) j pos) (eC (.str i)) := de_c pe_str fun _ _ => by simp [RV]
theorem de_op {op : Operator} {g : D → D → Store → Option (D × Store)} (ho : OpS X (binaryOp op) g) (ha : DE cm W X a fa) (hb : DE cm W X b fb) : DE cm W X (.BinOp a op b pos) (eOp g fa fb) :=
  peI (pe_op ho ha hb) fun s H Q h => by
    obtain ⟨m, p, st, re, rs, h⟩ := h
    refine ⟨m, p, st, re, rs, Post.split h fun d1 st1 m1 H1 v1 e1 x1 rs1 r1 h1 => ?_⟩
    refine ⟨m1, p, st1, re.ext rs x1, rs1, Post.split h1 fun d2 st2 m2 H2 v2 e2 x2 rs2 r2 h2 => ?_⟩
    exact ⟨m2, st2, d1, d2, rs2, RV.ext rs1 x2 _ r1, r2, PostO.of h2⟩
theorem de_cmp {op : CmpOp} {g : D → D → Store → Option (D × Store)} (ho : OpS X (compareOp op) g) (ha : DE cm W X a fa) (hb : DE cm W X b fb) (hm : behindInMarks op b = false) : DE cm W X (.Compare a [op] [b] pos) (eOp g fa fb) :=
  peI (pe_cmpR ho ha hb hm) fun s H Q h => by
    obtain ⟨m, p, st, re, rs, h⟩ := h
    refine ⟨m, p, st, re, rs, Post.split h fun d1 st1 m1 H1 v1 e1 x1 rs1 r1 h1 => ?_⟩
    refine ⟨m1, p, st1, re.ext rs x1, rs1, Post.split h1 fun d2 st2 m2 H2 v2 e2 x2 rs2 r2 h2 => ?_⟩
    exact ⟨m2, st2, d1, d2, rs2, RV.ext rs1 x2 _ r1, r2, PostO.of h2⟩
theorem de_un {op : UnaryOp} {g : D → Store → Option (D × Store)} (ho : UnS X (unaryOp op) g) (ha : DE cm W X a fa) : DE cm W X (.UnaryOp op a pos) (eUn g fa) :=
  peI (pe_un ho ha) fun s H Q h => by
    obtain ⟨m, p, st, re, rs, h⟩ := h
    refine ⟨m, p, st, re, rs, Post.split h fun d1 st1 m1 H1 v1 e1 x1 rs1 r1 h1 => ?_⟩
    exact ⟨m1, st1, d1, rs1, r1, PostO.of h1⟩
theorem blR_inv {K : PySem.W.Frag} {Wv : Value → Option Addr → Hp → Prop} {m : List Addr} {H : Hp} {d : D} {st : Store} {v : V} {α β : Type} {rel : List Addr → Hp → α → β → Prop} {g : Bool → Store → R α} {Q : β → Hp → Prop} (r : RV K m H d v)
    (h : Post cm K rel Wv m H (bindR (blR d st) g) Q) : ∃ k, v = .bl k ∧ Post cm K rel Wv m H (g k st) Q := by
  cases d with
  | bl k => exact ⟨k, by simpa [RV] using r, h⟩
  | non => exact h.elim
  | int _ => exact h.elim
  | str _ => exact h.elim
  | tup _ => exact h.elim
  | ref _ => exact h.elim
  | scr _ => exact h.elim
  | exn => exact h.elim
theorem bindR_assoc {α β γ : Type} (r : R α) (f : α → Store → R β) (g : β → Store → R γ) : bindR (bindR r f) g = bindR r fun x st => bindR (f x st) g := by
  cases r <;> rfl
theorem dt_of {t : TE} {f : EF} (h : PT X e (fun s H Q => LiftE cm X.K W f s H fun x H' => ∃ k, x = .bl k ∧ Q k H')) : DT cm W X e (tVal f) :=
  ptI h fun s H Q h => by
    obtain ⟨m, p, st, re, rs, h⟩ := h
    refine ⟨m, p, st, re, rs, Post.split h fun d1 st1 m1 H1 v1 e1 x1 rs1 r1 h1 => ?_⟩
    cases d1 with
    | bl k => exact ⟨k, by simpa [RV] using r1, h1 m1 H1 k Ext.refl rs1 rfl⟩
    | non => exact h1.elim
    | int _ => exact h1.elim
    | str _ => exact h1.elim
    | tup _ => exact h1.elim
    | ref _ => exact h1.elim
    | scr _ => exact h1.elim
    | exn => exact h1.elim
/-- any expression with a bool as its value, as a test -/
theorem dt_val (h : DE cm W X e fa) (he : ∀ whole, isTrue e X.env whole = (do let v ← whole; standAt e.pos; holding [v] (truthy v)) := by intro _; rfl) : DT cm W X e (tVal fa) := dt_of (t := LiftE cm X.K W fa) (pt_val h he)
theorem dt_cmp {op : CmpOp} {g : D → D → Store → Option (D × Store)} (ho : OpS X (compareOp op) g) (ha : DE cm W X a fa) (hb : DE cm W X b fb) (hm : behindInMarks op b = false) : DT cm W X (.Compare a [op] [b] pos) (tVal (eOp g fa fb)) :=
  dt_of (t := LiftE cm X.K W fa) (ptI (pt_cmpR ho ha hb hm) fun s H Q h => by
    obtain ⟨m, p, st, re, rs, h⟩ := h
    refine ⟨m, p, st, re, rs, Post.split h fun d1 st1 m1 H1 v1 e1 x1 rs1 r1 h1 => ?_⟩
    refine ⟨m1, p, st1, re.ext rs x1, rs1, Post.split h1 fun d2 st2 m2 H2 v2 e2 x2 rs2 r2 h2 => ?_⟩
    exact ⟨m2, st2, d1, d2, rs2, RV.ext rs1 x2 _ r1, r2, PostO.of h2⟩)
theorem chain_split {r r' : R2} {g g' : D → D → Store → Option (D × Store)} {s : L2.St} {H : Hp} {Q : VK}
    (h1 : ∀ x y H Q m st dx dy, RSt X.K m H st → RV X.K m H dx x → RV X.K m H dy y → PostO X.K (RV X.K) m H (g dx dy st) Q → r x y H Q)
    (h2 : ∀ x y H Q m st dx dy, RSt X.K m H st → RV X.K m H dx x → RV X.K m H dy y → PostO X.K (RV X.K) m H (g' dx dy st) Q → r' x y H Q)
    (h : LiftE cm X.K W (eChain g g' fa fb fc) s H Q) : tChain r r' (LiftE cm X.K W fa) (LiftE cm X.K W fb) (LiftE cm X.K W fc) s H Q := by
  obtain ⟨m, p, st, re, rs, h⟩ := h
  refine ⟨m, p, st, re, rs, Post.split h fun d1 st1 m1 H1 v1 e1 x1 rs1 r1 q1 => ?_⟩
  refine ⟨m1, p, st1, re.ext rs x1, rs1, Post.split q1 fun d2 st2 m2 H2 v2 e2 x2 rs2 r2 q2 => ?_⟩
  refine h1 _ _ _ _ m2 st2 d1 d2 rs2 (RV.ext rs1 x2 _ r1) r2 (PostO.of (Post.split (rel := RV X.K) q2 fun d3 st3 m3 H3 v3 e3 x3 rs3 r3 q3 => ?_))
  obtain ⟨k, rfl, q3⟩ := blR_inv r3 q3
  refine ⟨k, rfl, ?_⟩
  cases k with
  | false => exact q3 m3 H3 _ Ext.refl rs3 (by simp [RV])
  | true =>
    refine ⟨m3, p, st3, ((re.ext rs x1).ext rs1 x2).ext rs2 x3, rs3, Post.split q3 fun d4 st4 m4 H4 v4 e4 x4 rs4 r4 q4 => ?_⟩
    exact h2 _ _ _ _ m4 st4 d2 d4 rs4 (RV.ext rs3 x4 _ (RV.ext rs2 x3 _ r2)) r4 (PostO.of q4)
theorem de_chain {op op' : CmpOp} {g g' : D → D → Store → Option (D × Store)} (ho : OpS X (compareOp op) g) (ho' : OpS X (compareOp op') g') (ha : DE cm W X a fa) (hb : DE cm W X b fb) (hc : DE cm W X c fc)
    (hm : lastMarks [op, op'] [b, c] = false := by with_unfolding_all rfl) : DE cm W X (.Compare a [op, op'] [b, c] pos) (eChain g g' fa fb fc) :=
  peI (pe_chain ho ho' ha hb hc hm) fun s H Q h => chain_split (fun x y H Q m st dx dy h1 h2 h3 h4 => ⟨m, st, dx, dy, h1, h2, h3, h4⟩) (fun x y H Q m st dx dy h1 h2 h3 h4 => ⟨m, st, dx, dy, h1, h2, h3, h4⟩) h
theorem dt_chain {op op' : CmpOp} {g g' : D → D → Store → Option (D × Store)} (ho : OpS X (compareOp op) g) (ho' : OpS X (compareOp op') g') (ha : DE cm W X a fa) (hb : DE cm W X b fb) (hc : DE cm W X c fc)
    (hm : lastMarks [op, op'] [b, c] = false := by with_unfolding_all rfl) : DT cm W X (.Compare a [op, op'] [b, c] pos) (tVal (eChain g g' fa fb fc)) :=
  dt_of (t := LiftE cm X.K W fa) (ptI (pt_chain ho ho' ha hb hc hm) fun s H Q h => chain_split (fun x y H Q m st dx dy h1 h2 h3 h4 => ⟨m, st, dx, dy, h1, h2, h3, h4⟩) (fun x y H Q m st dx dy h1 h2 h3 h4 => ⟨m, st, dx, dy, h1, h2, h3, h4⟩) h)
/-! tests -/
variable {ta tb tc : TF1} {rest : List Expr}
theorem dt_not (h : DT cm W X a ta) : DT cm W X (.UnaryOp .Not a pos) (tNotF ta) := ptI (pt_not h) fun s H Q h => by
  obtain ⟨m, p, st, re, rs, h⟩ := h
  exact ⟨m, p, st, re, rs, Post.split h fun d1 st1 m1 H1 v1 e1 x1 rs1 r1 h1 => h1 m1 H1 _ Ext.refl rs1 (by rw [r1])⟩
theorem dw_and1 (h : DT cm W X a ta) : DW cm W X (.BoolOp .And [a] pos) ta := pw_and1 h
theorem dw_or1 (h : DT cm W X a ta) : DW cm W X (.BoolOp .Or [a] pos) ta := pw_or1 h
theorem dw_and (ha : DT cm W X a ta) (hb : DW cm W X (.BoolOp .And (b :: rest) pos) tb) : DW cm W X (.BoolOp .And (a :: b :: rest) pos) (tAndF ta tb) := pwI (pw_and ha hb) fun s H Q h => by
  obtain ⟨m, p, st, re, rs, h⟩ := h
  refine ⟨m, p, st, re, rs, Post.split h fun d1 st1 m1 H1 v1 e1 x1 rs1 r1 h1 => ?_⟩
  subst r1
  cases d1 with
  | true => exact ⟨m1, p, st1, re.ext rs x1, rs1, h1⟩
  | false => exact h1 m1 H1 _ Ext.refl rs1 rfl
theorem dw_or (ha : DT cm W X a ta) (hb : DW cm W X (.BoolOp .Or (b :: rest) pos) tb) : DW cm W X (.BoolOp .Or (a :: b :: rest) pos) (tOrF ta tb) := pwI (pw_or ha hb) fun s H Q h => by
  obtain ⟨m, p, st, re, rs, h⟩ := h
  refine ⟨m, p, st, re, rs, Post.split h fun d1 st1 m1 H1 v1 e1 x1 rs1 r1 h1 => ?_⟩
  subst r1
  cases d1 with
  | false => exact ⟨m1, p, st1, re.ext rs x1, rs1, h1⟩
  | true => exact h1 m1 H1 _ Ext.refl rs1 rfl
theorem dt_w (h : DW cm W X a ta) : DT cm W X a ta := PW.pt h
/-! values -/
theorem de_one {op} (h : DE cm W X a fa) : DE cm W X (.BoolOp op [a] pos) fa := pe_one h
theorem de_and (ha : DE cm W X a fa) (hb : DE cm W X (.BoolOp .And (b :: rest) pos) fb) : DE cm W X (.BoolOp .And (a :: b :: rest) pos) (eAnd fa fb) := peI (pe_and ha hb) fun s H Q h => by
  obtain ⟨m, p, st, re, rs, h⟩ := h
  rw [eAnd, tVal, bindR_assoc] at h
  refine ⟨m, p, st, re, rs, Post.split h fun d1 st1 m1 H1 v1 e1 x1 rs1 r1 h1 => ?_⟩
  obtain ⟨k, rfl, h1⟩ := blR_inv r1 h1
  refine ⟨k, rfl, ?_⟩
  cases k with
  | true => exact ⟨m1, p, st1, re.ext rs x1, rs1, h1⟩
  | false => exact h1 m1 H1 _ Ext.refl rs1 (by simp [RV])
theorem de_or (ha : DE cm W X a fa) (hb : DE cm W X (.BoolOp .Or (b :: rest) pos) fb) : DE cm W X (.BoolOp .Or (a :: b :: rest) pos) (eOr fa fb) := peI (pe_or ha hb) fun s H Q h => by
  obtain ⟨m, p, st, re, rs, h⟩ := h
  rw [eOr, tVal, bindR_assoc] at h
  refine ⟨m, p, st, re, rs, Post.split h fun d1 st1 m1 H1 v1 e1 x1 rs1 r1 h1 => ?_⟩
  obtain ⟨k, rfl, h1⟩ := blR_inv r1 h1
  refine ⟨k, rfl, ?_⟩
  cases k with
  | false => exact ⟨m1, p, st1, re.ext rs x1, rs1, h1⟩
  | true => exact h1 m1 H1 _ Ext.refl rs1 (by simp [RV])
theorem de_not (ha : DE cm W X a fa) : DE cm W X (.UnaryOp .Not a pos) (eNot fa) := peI (pe_not ha) fun s H Q h => by
  obtain ⟨m, p, st, re, rs, h⟩ := h
  rw [eNot, tVal, bindR_assoc] at h
  refine ⟨m, p, st, re, rs, Post.split h fun d1 st1 m1 H1 v1 e1 x1 rs1 r1 h1 => ?_⟩
  obtain ⟨k, rfl, h1⟩ := blR_inv r1 h1
  exact ⟨k, rfl, h1 m1 H1 _ Ext.refl rs1 (by simp [RV])⟩
theorem de_if (hc : DT cm W X c tc) (ha : DE cm W X a fa) (hb : DE cm W X b fb) : DE cm W X (.IfExp c a b pos) (eIf tc fa fb) := peI (pe_ifExp hc ha hb) fun s H Q h => by
  obtain ⟨m, p, st, re, rs, h⟩ := h
  refine ⟨m, p, st, re, rs, Post.split h fun d1 st1 m1 H1 v1 e1 x1 rs1 r1 h1 => ?_⟩
  subst r1
  cases d1 with
  | true => exact ⟨m1, p, st1, re.ext rs x1, rs1, h1⟩
  | false => exact ⟨m1, p, st1, re.ext rs x1, rs1, h1⟩
/-! arguments and displays -/
variable {es : List Expr} {fs : AF}
theorem da_nil : DA cm W X [] aNil := paI pa_nil fun s H Q h => by
  obtain ⟨m, p, st, re, rs, h⟩ := h
  exact h m H [] Ext.refl rs RVs.nil
theorem da_cons (ha : DE cm W X a fa) (hr : DA cm W X es fs) (hs : starEach (a :: es) X.env = (false, eval a X.env) :: starEach es X.env := by rfl) : DA cm W X (a :: es) (aCons fa fs) := paI (pa_cons ha hr hs) fun s H Q h => by
  obtain ⟨m, p, st, re, rs, h⟩ := h
  refine ⟨m, p, st, re, rs, Post.split h fun d1 st1 m1 H1 v1 e1 x1 rs1 r1 h1 => ?_⟩
  refine ⟨m1, p, st1, re.ext rs x1, rs1, Post.split h1 fun d2 st2 m2 H2 v2 e2 x2 rs2 r2 h2 => ?_⟩
  exact h2 m2 H2 _ Ext.refl rs2 (RVs.cons (RV.ext rs1 x2 _ r1) r2)
theorem ofLim {n : Nat} (h : n ≤ LIM) : n ≤ sizeLine := by rw [lim_eq]; exact h
theorem de_tup {x1} (h : DA cm W X es fs) : DE cm W X (.Tuple es x1 pos) (eB mkTup fs) := peI (pe_tup h) fun s H Q h => by
  obtain ⟨m, p, st, re, rs, h⟩ := h
  refine ⟨m, p, st, re, rs, Post.split h fun d1 st1 m1 H1 v1 e1 x1 rs1 r1 h1 => ?_⟩
  have h1 := PostO.of h1
  unfold mkTup at h1
  split at h1
  · rename_i hz
    exact ⟨by rw [← r1.len]; exact ofLim hz, fun q hq => postO_tup rs1 h1 hq r1⟩
  · exact h1.elim
theorem de_lst (h : DA cm W X es fs) : DE cm W X (.List es pos) (eB mkLst fs) := peI (pe_lst h) fun s H Q h => by
  obtain ⟨m, p, st, re, rs, h⟩ := h
  refine ⟨m, p, st, re, rs, Post.split h fun d1 st1 m1 H1 v1 e1 x1 rs1 r1 h1 => ?_⟩
  have h1 := PostO.of h1
  unfold mkLst at h1
  split at h1
  · rename_i hz
    exact ⟨by rw [← r1.len]; exact ofLim hz, fun q hq => postO_lst rs1 h1 hq r1⟩
  · exact h1.elim
/-! calls of what is built in -/
theorem lift_call {g : List D → Store → Option (D × Store)} {ta : TA} {s : L2.St} {H : Hp} {Q : VK} (h : LiftE cm X.K W (eB g fs) s H Q) :
    LiftA cm X.K W fs s H fun xs H1 => ∃ m st ds, RSt X.K m H1 st ∧ RVs X.K m H1 ds xs ∧ PostO X.K (RV X.K) m H1 (g ds st) Q := by
  obtain ⟨m, p, st, re, rs, h⟩ := h
  refine ⟨m, p, st, re, rs, Post.split h fun d1 st1 m1 H1 v1 e1 x1 rs1 r1 h1 => ?_⟩
  exact ⟨m1, st1, d1, rs1, r1, PostO.of h1⟩
theorem de_callB {g : List D → Store → Option (D × Store)} {id : String} {x : Str} {pf : Pos} (hc : CallS X (.builtin id) g) (hg : Gl X x) (hm : X.mg x = none) (hv : bootBuiltins x = some (.builtin id)) (ha : DA cm W X (e :: es) fs) (hn : x ≠ "__name__" := by decide) (hdb : (x == ("__debug__" : Str)) = false := by decide)
    (he : starEach (e :: es) X.env = (false, eval e X.env) :: starEach es X.env := by rfl) (hpl : (backTo pos (starEach es X.env)).any (·.1) = false := by rfl) : DE cm W X (.Call (.Name x pf) (e :: es) [] pos) (eB g fs) :=
  peI (pe_callB hc hg hm hv ha hn hdb he hpl) fun s H Q h => lift_call (ta := LiftA cm X.K W fs) h
theorem de_callTy {g : List D → Store → Option (D × Store)} {T : String} {x : Str} {pf : Pos} (hc : CallS X (.type T) g) (hg : Gl X x) (hm : X.mg x = none) (hv : bootBuiltins x = some (.type T)) (ha : DA cm W X (e :: es) fs) (hn : x ≠ "__name__" := by decide) (hdb : (x == ("__debug__" : Str)) = false := by decide)
    (he : starEach (e :: es) X.env = (false, eval e X.env) :: starEach es X.env := by rfl) (hpl : (backTo pos (starEach es X.env)).any (·.1) = false := by rfl) : DE cm W X (.Call (.Name x pf) (e :: es) [] pos) (eB g fs) :=
  peI (pe_callTy hc hg hm hv ha hn hdb he hpl) fun s H Q h => lift_call (ta := LiftA cm X.K W fs) h
/-! subscripts -/
theorem de_ix {g : D → D → Store → Option (D × Store)} (hr : IxS X g) (ha : DE cm W X a fa) (hb : DE cm W X b fb) (hs : PlainIx b := by intro _ _; rfl) : DE cm W X (.Subscript a b pos) (eOp g fa fb) :=
  peI (pe_ix hr ha hb hs) fun s H Q h => by
    obtain ⟨m, p, st, re, rs, h⟩ := h
    refine ⟨m, p, st, re, rs, Post.split h fun d1 st1 m1 H1 v1 e1 x1 rs1 r1 h1 => ?_⟩
    refine ⟨m1, p, st1, re.ext rs x1, rs1, Post.split h1 fun d2 st2 m2 H2 v2 e2 x2 rs2 r2 h2 => ?_⟩
    exact ⟨m2, st2, d1, d2, rs2, RV.ext rs1 x2 _ r1, r2, PostO.of h2⟩
end
end Mi
set_option Elab.async false
set_option linter.all false
set_option maxRecDepth 100000
set_option maxHeartbeats 4000000
/-! Mi2: what is walked, targets, comprehensions, statements, loops. -/
namespace Mi
open PySem PySem.Spec L2
open PyProof.Rows hiding St

/-! ### what is walked -/
structure IT where
  items : List D
  still : Store → Prop
/-- J yields the items, while the store is as asked -/
def ItRel (K : PySem.W.Frag) (m1 : List Addr) (H1 : Hp) (it : IT) (J : It) : Prop :=
  (∀ i d m H st, it.items[i]? = some d → Ext m1 H1 m H → RSt K m H st → it.still st → J.go i H ∧ ∀ x H', J.yld i H x H' → Ext m H m H' ∧ RSt K m H' st ∧ RV K m H' d x) ∧
  (∀ m H st, Ext m1 H1 m H → RSt K m H st → it.still st → J.stop it.items.length H)
abbrev LiftI (cm : Str → Option Value) (K : PySem.W.Frag) := LiftG cm K (ItRel K)
abbrev IF := Rho → Store → R IT
def DI (cm : Str → Option Value) (W : WX) (X : Cx) (tg e : Expr) (f : IF) : Prop := PI X tg e (LiftI cm X.K W f)
/-- what stands in a list, tuple, text or the script -/
def itOf (d : D) (st : Store) : R IT := match d with
  | .tup ds => .ok ⟨ds, fun _ => True⟩ st
  | .scr ns => .ok ⟨ns.map .int, fun _ => True⟩ st
  | .str x => .ok ⟨x.cps.toList.map fun c => .str ⟨#[c]⟩, fun _ => True⟩ st
  | .ref l => match st[l]? with
    | some (.lst ds) => .ok ⟨ds, fun st' => st'[l]? = some (.lst ds)⟩ st
    | _ => .bad
  | _ => .bad
def iSeq (a : EF) : IF := fun p st => bindR (a p st) itOf
def rgItems (lo : Int) (n : Nat) : List D := (List.range n).map fun i => .int (lo + (i : Nat))
def iRange1 (a : AF) : IF := fun p st => bindR (a p st) fun xs st1 => match xs with
  | [.int n] => if -(2 ^ 62) ≤ n ∧ n < 2 ^ 62 then .ok ⟨rgItems 0 n.toNat, fun _ => True⟩ st1 else .bad
  | _ => .bad
def iRange2 (a : AF) : IF := fun p st => bindR (a p st) fun xs st1 => match xs with
  | [.int i, .int j] => if -(2 ^ 62) ≤ i ∧ i < 2 ^ 62 ∧ -(2 ^ 62) ≤ j ∧ j < 2 ^ 62 then .ok ⟨rgItems i (j - i).toNat, fun _ => True⟩ st1 else .bad
  | _ => .bad
def enItems (ds : List D) : List D := (List.range ds.length).map fun i => .tup [.int (i : Nat), ds.getD i .non]
def iEnumF (a : AF) : IF := fun p st => bindR (a p st) fun xs st1 => match xs with
  | [.ref l] => match st1[l]? with
    | some (.lst ds) => .ok ⟨enItems ds, fun st' => st'[l]? = some (.lst ds)⟩ st1
    | _ => .bad
  | _ => .bad
section
variable {K : PySem.W.Frag} {m : List Addr} {H : Hp}
theorem itrel_list {l : Nat} {a : Addr} {ds : List D} (hl : m[l]? = some a) : ItRel K m H ⟨ds, fun st' => st'[l]? = some (.lst ds)⟩ (Itl K a) := by
  refine ⟨fun i d m' H' st e x rs h => ?_, fun m' H' st x rs h => ?_⟩
  · obtain ⟨vs, h1, h2⟩ := rs.lst (x.idx hl) h
    obtain ⟨v, e1, e2⟩ := h2.get e
    refine ⟨⟨vs, v, SqL.of h1, e1⟩, fun y H2 q => ?_⟩
    obtain ⟨rfl, q⟩ := q
    have := q vs (SqL.of h1)
    rw [e1] at this; cases this
    exact ⟨Ext.refl, rs, e2⟩
  · obtain ⟨vs, h1, h2⟩ := rs.lst (x.idx hl) h
    exact ⟨vs, SqL.of h1, by rw [h2.len]; exact Nat.le_refl _⟩
theorem itrel_scr {st0 : Store} {a : Addr} {ns : List Int} (rs0 : RSt K m H st0) (h : FzL K H a (ns.map V.int)) : ItRel K m H ⟨ns.map .int, fun _ => True⟩ (Itl K a) := by
  refine ⟨fun i d m' H' st e x rs _ => ?_, fun m' H' st x rs _ => ?_⟩
  · have h1 := (h.ext (x.to0 rs0)).seq
    rw [List.getElem?_map] at e
    obtain ⟨n, en, rfl⟩ := Option.map_eq_some_iff.mp e
    have e1 : (ns.map V.int)[i]? = some (.int n) := by rw [List.getElem?_map, en]; rfl
    refine ⟨⟨_, _, h1, e1⟩, fun y H2 q => ?_⟩
    obtain ⟨rfl, q⟩ := q
    have := q _ h1
    rw [e1] at this; cases this
    exact ⟨Ext.refl, rs, by simp [RV]⟩
  · exact ⟨_, (h.ext (x.to0 rs0)).seq, by simp⟩
theorem itrel_tup {st0 : Store} {a : Addr} {ds : List D} {vs : List V} (rs0 : RSt K m H st0) (h : SqT K H a vs) (r : RVs K m H ds vs) : ItRel K m H ⟨ds, fun _ => True⟩ (Itt K a) := by
  refine ⟨fun i d m' H' st e x rs _ => ?_, fun m' H' st x rs _ => ?_⟩
  · have h1 := SqT.ext (x.to0 rs0) h
    obtain ⟨v, e1, e2⟩ := (RVs.ext rs0 x _ r).get e
    refine ⟨⟨_, _, h1, e1⟩, fun y H2 q => ?_⟩
    obtain ⟨rfl, q⟩ := q
    have := q _ h1
    rw [e1] at this; cases this
    exact ⟨Ext.refl, rs, e2⟩
  · exact ⟨_, SqT.ext (x.to0 rs0) h, by rw [r.len]; exact Nat.le_refl _⟩
theorem itrel_str {z : Str} : ItRel K m H ⟨z.cps.toList.map fun c => .str ⟨#[c]⟩, fun _ => True⟩ (Its z) := by
  refine ⟨fun i d m' H' st e x rs _ => ?_, fun m' H' st x rs _ => ?_⟩
  · have hi : i < z.cps.size := by
      have := (List.getElem?_eq_some_iff.mp e).1
      simpa using this
    refine ⟨hi, fun y H2 q => ?_⟩
    obtain ⟨rfl, c, hc, rfl⟩ := q
    refine ⟨Ext.refl, rs, ?_⟩
    rw [List.getElem?_map] at e
    obtain ⟨c', ec, rfl⟩ := Option.map_eq_some_iff.mp e
    simp only [RV]
    have : z.cps[i]? = some c' := by simpa using ec
    rw [hc] at this; cases this; rfl
  · show z.cps.size ≤ _
    simp
theorem rg_get {lo : Int} {n i : Nat} {d : D} (h : (rgItems lo n)[i]? = some d) : i < n ∧ d = .int (lo + (i : Nat)) := by
  unfold rgItems at h
  rw [List.getElem?_map] at h
  obtain ⟨k, ek, rfl⟩ := Option.map_eq_some_iff.mp h
  have hk := List.getElem?_eq_some_iff.mp ek
  obtain ⟨hk1, hk2⟩ := hk
  rw [List.length_range] at hk1
  rw [List.getElem_range] at hk2
  subst hk2
  exact ⟨hk1, rfl⟩
theorem itrel_range {lo : Int} {n : Nat} : ItRel K m H ⟨rgItems lo n, fun _ => True⟩ (Itr lo n) := by
  refine ⟨fun i d m' H' st e x rs _ => ?_, fun m' H' st x rs _ => ?_⟩
  · obtain ⟨hi, rfl⟩ := rg_get e
    refine ⟨hi, fun y H2 q => ?_⟩
    obtain ⟨rfl, rfl⟩ := q
    exact ⟨Ext.refl, rs, by simp [RV]⟩
  · show n ≤ _
    simp [rgItems]
theorem en_get {ds : List D} {i : Nat} {d : D} (h : (enItems ds)[i]? = some d) : ∃ d0, ds[i]? = some d0 ∧ d = .tup [.int (i : Nat), d0] := by
  unfold enItems at h
  rw [List.getElem?_map] at h
  obtain ⟨k, ek, rfl⟩ := Option.map_eq_some_iff.mp h
  obtain ⟨hk1, hk2⟩ := List.getElem?_eq_some_iff.mp ek
  rw [List.length_range] at hk1
  rw [List.getElem_range] at hk2
  subst hk2
  exact ⟨ds[i], List.getElem?_eq_getElem hk1, by simp [List.getD, List.getElem?_eq_getElem hk1]⟩
theorem en_len (ds : List D) : (enItems ds).length = ds.length := by
  unfold enItems; simp
theorem itrel_enum {l : Nat} {a : Addr} {ds : List D} (hl : m[l]? = some a) : ItRel K m H ⟨enItems ds, fun st' => st'[l]? = some (.lst ds)⟩ (Ite K a) := by
  refine ⟨fun i d m' H' st e x rs h => ?_, fun m' H' st x rs h => ?_⟩
  · obtain ⟨vs, h1, h2⟩ := rs.lst (x.idx hl) h
    obtain ⟨d0, e0, rfl⟩ := en_get e
    obtain ⟨v, e1, e2⟩ := h2.get e0
    refine ⟨⟨vs, v, SqL.of h1, e1⟩, fun y H2 q => ?_⟩
    obtain ⟨T, x', rfl, hT, rfl, q⟩ := q
    have := q vs (SqL.of h1)
    rw [e1] at this; cases this
    refine ⟨ext_fresh hT, rs.beside hT, ?_⟩
    simp only [RV]
    exact ⟨T, _, rfl, .inl (.inl upd_same), RVs.cons (by simp [RV]) (RVs.one (RV.ext rs (ext_fresh hT) _ e2))⟩
  · obtain ⟨vs, h1, h2⟩ := rs.lst (x.idx hl) h
    exact ⟨vs, SqL.of h1, by rw [en_len, h2.len]; exact Nat.le_refl _⟩
end
section
variable {cm : Str → Option Value} {W : WX} {X : Cx} {tg a e : Expr} {es : List Expr} {fa : EF} {fs : AF} {pos p tpos : Pos}
/-- a list, tuple or text, whichever comes -/
theorem di_seq (ha : DE cm W X a fa) : DI cm W X tg a (iSeq fa) := by
  refine ⟨fun pins s σ H R I h => ?_⟩
  obtain ⟨m, p, st, re, rs, h⟩ := h
  refine thn (ha.run pins s σ H (fun x H1 => ∃ d st1 m1, RSt X.K m1 H1 st1 ∧ RV X.K m1 H1 d x ∧ Post cm X.K (ItRel X.K) (fun c d H' => W c d σ H') m1 H1 (itOf d st1) R) I ⟨m, p, st, re, rs, Post.split h fun d st1 m1 H1 v e1 x1 rs1 r1 h1 => ⟨d, st1, m1, rs1, r1, h1⟩⟩) fun v s1 ⟨x, H1, I1, r1, d, st1, m1, rs1, rv, q⟩ => ?_
  cases d with
  | non => exact q.elim
  | bl _ => exact q.elim
  | exn => exact q.elim
  | int _ => exact q.elim
  | tup ds =>
    simp only [RV] at rv
    obtain ⟨b, vs, rfl, hb, rvs⟩ := rv
    cases r1
    obtain ⟨its, rl, pl, hz⟩ := I1.tuple hb
    refine wpAny_pyIter_tuple (show s1.heap.IsTuple b its.toArray from pl) ?_
    refine ⟨s1.heap.objs.size, [s1.heap.objs.size], _, _, H1, rfl, I1.kept (t' := s1.toks) fun b o e => Heap.get?_push_of_some _ e, turn_tuple b _, ⟨_, Heap.get?_push_size _ rfl, rfl, rfl⟩, fun b hb => ?_, q m1 H1 _ Ext.refl rs1 (itrel_tup rs1 hb rvs)⟩
    have e : b = s1.heap.objs.size := by simpa using hb
    subst e
    exact I1.fpOk (Nat.le_refl _) (I1.hok.fresh (Nat.le_refl _))
  | scr ns =>
    simp only [RV] at rv
    obtain ⟨b, rfl, hb⟩ := rv
    cases r1
    obtain ⟨its, rl, pl, hz⟩ := I1.list hb.seq
    refine wpAny_pyIter_list pl.isList ?_
    refine ⟨s1.heap.objs.size, [s1.heap.objs.size], _, _, H1, rfl, I1.kept (t' := s1.toks) fun b o e => Heap.get?_push_of_some _ e, turn_list b _, ⟨_, Heap.get?_push_size _ rfl, rfl, rfl⟩, fun b hb => ?_, q m1 H1 _ Ext.refl rs1 (itrel_scr rs1 hb)⟩
    have e : b = s1.heap.objs.size := by simpa using hb
    subst e
    exact I1.fpOk (Nat.le_refl _) (I1.hok.fresh (Nat.le_refl _))
  | str z =>
    simp only [RV] at rv
    subst rv
    obtain ⟨t, rfl⟩ := r1
    have q' := q m1 H1 _ Ext.refl rs1 (itrel_str (K := X.K) (m := m1) (H := H1) (z := z))
    cases hz : z.cps.all (· < 128)
    · exact wpAny_pyIter_wide hz (pi_one (tk := s1.toks) I1 _ (turn_str _ z t "str_iterator" (.inr rfl)) ⟨_, Heap.get?_push_size _ rfl, rfl, rfl⟩ q')
    · exact wpAny_pyIter_ascii hz (pi_one (tk := s1.toks) I1 _ (turn_str _ z t "str_ascii_iterator" (.inl rfl)) ⟨_, Heap.get?_push_size _ rfl, rfl, rfl⟩ q')
  | ref l =>
    simp only [RV] at rv
    obtain ⟨b, rfl, hb⟩ := rv
    cases r1
    cases hs : st1[l]? with
    | none => simp only [itOf, hs] at q; exact q.elim
    | some o =>
      simp only [itOf, hs] at q
      cases o with
      | dic _ => exact q.elim
      | err _ _ => exact q.elim
      | lst ds =>
        obtain ⟨vs, h1, h2⟩ := rs1.lst hb hs
        obtain ⟨its, rl, pl, hz⟩ := I1.list (SqL.of h1)
        refine wpAny_pyIter_list pl.isList ?_
        refine ⟨s1.heap.objs.size, [s1.heap.objs.size], _, _, H1, rfl, I1.kept (t' := s1.toks) fun b o e => Heap.get?_push_of_some _ e, turn_list b _, ⟨_, Heap.get?_push_size _ rfl, rfl, rfl⟩, fun b hb => ?_, q m1 H1 _ Ext.refl rs1 (itrel_list hb)⟩
        have e : b = s1.heap.objs.size := by simpa using hb
        subst e
        exact I1.fpOk (Nat.le_refl _) (I1.hok.fresh (Nat.le_refl _))
theorem piI {t t' : TI} (h : PI X tg e t) (i : ∀ s H Q, t' s H Q → t s H Q) : PI X tg e t' := ⟨fun pins s σ H Q I q => h.run pins s σ H Q I (i _ _ _ q)⟩
theorem di_range1 (hg : Gl X "range") (hm : X.mg "range" = none) (ha : DA cm W X [a] fs) (hs : starEach [a] X.env = [(false, eval a X.env)] := by rfl) : DI cm W X tg (.Call (.Name "range" p) [a] [] pos) (iRange1 fs) :=
  piI (pi_range1 hg hm ha hs) fun s H Q h => by
    obtain ⟨m, p, st, re, rs, h⟩ := h
    refine ⟨m, p, st, re, rs, Post.split h fun d st1 m1 H1 v e1 x1 rs1 r1 h1 => ?_⟩
    split at h1
    · split at h1
      · rename_i n hn
        simp only [RVs, RV] at r1
        obtain ⟨_, _, rfl, rfl, rfl⟩ := r1
        exact ⟨n, rfl, hn.1, hn.2, h1 m1 H1 _ Ext.refl rs1 itrel_range⟩
      · exact h1.elim
    · exact h1.elim
theorem di_range2 {b : Expr} (hg : Gl X "range") (hm : X.mg "range" = none) (ha : DA cm W X [a, b] fs) (hs : starEach [a, b] X.env = [(false, eval a X.env), (false, eval b X.env)] := by rfl) (hs2 : starEach [b] X.env = [(false, eval b X.env)] := by rfl) :
    DI cm W X tg (.Call (.Name "range" p) [a, b] [] pos) (iRange2 fs) :=
  piI (pi_range2 hg hm ha hs hs2) fun s H Q h => by
    obtain ⟨m, p, st, re, rs, h⟩ := h
    refine ⟨m, p, st, re, rs, Post.split h fun d st1 m1 H1 v e1 x1 rs1 r1 h1 => ?_⟩
    split at h1
    · split at h1
      · rename_i i j hn
        simp only [RVs, RV] at r1
        obtain ⟨_, _, rfl, rfl, _, _, rfl, rfl, rfl⟩ := r1
        exact ⟨i, j, rfl, hn, h1 m1 H1 _ Ext.refl rs1 itrel_range⟩
      · exact h1.elim
    · exact h1.elim
theorem di_enum {elts : List Expr} {kk : Nat} (hg : Gl X "enumerate") (hm : X.mg "enumerate" = none) (ha : DA cm W X [a] fs) (hs : starEach [a] X.env = [(false, eval a X.env)] := by rfl) : DI cm W X (.Tuple elts kk tpos) (.Call (.Name "enumerate" p) [a] [] pos) (iEnumF fs) :=
  piI (pi_enum hg hm ha hs) fun s H Q h => by
    obtain ⟨m, p, st, re, rs, h⟩ := h
    refine ⟨m, p, st, re, rs, Post.split h fun d st1 m1 H1 v e1 x1 rs1 r1 h1 => ?_⟩
    split at h1
    · split at h1
      · rename_i l _ ds hn
        simp only [RVs, RV] at r1
        obtain ⟨_, _, rfl, ⟨b, rfl, hb⟩, rfl⟩ := r1
        obtain ⟨vs, q1, q2⟩ := rs1.lst hb hn
        exact ⟨b, vs, rfl, SqL.of q1, h1 m1 H1 _ Ext.refl rs1 (itrel_enum hb)⟩
      · exact h1.elim
    · exact h1.elim
end
end Mi
set_option Elab.async false
set_option linter.all false
set_option maxRecDepth 100000
set_option maxHeartbeats 4000000
/-! Mi3: targets, comprehensions, statements, loops. -/
namespace Mi
open PySem PySem.Spec L2
open PyProof.Rows hiding St

/-! ### targets -/
abbrev TgF := D → Rho → Store → Option Rho
/-- the slots outside l are as they were -/
def Same1 (l : List Nat) (s s' : L2.St) : Prop := s'.length = s.length ∧ ∀ j, j ∉ l → s'[j]? = s[j]?
def LiftTg (K : PySem.W.Frag) (l : List Nat) (f : TgF) : TG := fun v s H Q => ∃ m p st d, RE K m H p s ∧ RSt K m H st ∧ RV K m H d v ∧
  match f d p st with
  | some p' => ∀ s', RE K m H p' s' → Same1 l s s' → Q s' H
  | none => False
def DG (X : Cx) (e : Expr) (l : List Nat) (f : TgF) : Prop := PG X e (LiftTg X.K l f)
def gNameF (i : Nat) : TgF := fun d p _ => some (p.set i (some d))
abbrev TgsF := List D → Rho → Store → Option Rho
def LiftTgs (K : PySem.W.Frag) (l : List Nat) (f : TgsF) : TGs := fun vs s H Q => ∃ m p st ds, RE K m H p s ∧ RSt K m H st ∧ RVs K m H ds vs ∧
  match f ds p st with
  | some p' => ∀ s', RE K m H p' s' → Same1 l s s' → Q s' H
  | none => False
def DGs (X : Cx) (e : List Expr) (l : List Nat) (f : TgsF) : Prop := PGs X e (LiftTgs X.K l f)
def gNilF : TgsF := fun ds p _ => match ds with
  | [] => some p
  | _ => none
def gConsF (f : TgF) (g : TgsF) : TgsF := fun ds p st => match ds with
  | d :: ds => match f d p st with
    | some p1 => g ds p1 st
    | none => none
  | [] => none
def gTupF (n : Nat) (g : TgsF) : TgF := fun d p st => match d with
  | .tup ds => if ds.length = n then g ds p st else none
  | _ => none
section
variable {K : PySem.W.Frag} {m : List Addr} {H : Hp} {st : Store} {X : Cx}
theorem RE.set {p : Rho} {s : L2.St} {i : Nat} {d : D} {v : V} (re : RE K m H p s) (hi : i < s.length) (r : RV K m H d v) : RE K m H (p.set i (some d)) (s.set i (some v)) := fun j d' e => by
  by_cases hj : i = j
  · subst hj
    by_cases hp : i < p.length
    · rw [List.getElem?_set_self hp] at e
      cases e
      exact ⟨v, List.getElem?_set_self hi, r⟩
    · rw [List.getElem?_eq_none (by simpa using hp)] at e; cases e
  · rw [List.getElem?_set_ne hj] at e
    obtain ⟨v', e1, e2⟩ := re j d' e
    exact ⟨v', by rw [List.getElem?_set_ne hj]; exact e1, e2⟩
theorem Same1.refl {l : List Nat} {s : L2.St} : Same1 l s s := ⟨rfl, fun _ _ => rfl⟩
theorem Same1.set {l : List Nat} {s : L2.St} {i : Nat} {v : Option V} (h : i ∈ l) : Same1 l s (s.set i v) := ⟨by simp, fun j hj => List.getElem?_set_ne fun e => hj (by rw [← e]; exact h)⟩
theorem Same1.trans {l l' : List Nat} {s s' s'' : L2.St} (a : Same1 l s s') (b : Same1 l' s' s'') : Same1 (l ++ l') s s'' := ⟨b.1.trans a.1, fun j hj => by
  rw [List.mem_append, not_or] at hj
  exact (b.2 j hj.2).trans (a.2 j hj.1)⟩
theorem pgI {e : Expr} {t t' : TG} (h : PG X e t) (i : ∀ v s H Q, s.length = X.N.length → t' v s H Q → t v s H Q) : PG X e t' := ⟨fun pins s σ H v u Q I r q => h.run pins s σ H v u Q I r (i _ _ _ _ I.len q)⟩
theorem pgsI {e : List Expr} {t t' : TGs} (h : PGs X e t) (i : ∀ v s H Q, s.length = X.N.length → t' v s H Q → t v s H Q) : PGs X e t' := ⟨fun pins s σ H v u Q I r q => h.run pins s σ H v u Q I r (i _ _ _ _ I.len q)⟩
theorem dg_name {i : Nat} {x : Str} {pos : Pos} (hN : X.N.Nodup) (hi : X.N[i]? = some x := by rfl) (hx : Loc X.env.scope x := by first | exact Or.inl rfl | exact Or.inr rfl) (hf : X.fn x = true ∨ X.env.scope.names.lookup x = some .local := by first | exact .inl rfl | exact .inr rfl | assumption) : DG X (.Name x pos) [i] (gNameF i) :=
  pgI (pg_name hN hi hx hf) fun v s H Q hl h => by
    obtain ⟨m, p, st, d, re, rs, r, h⟩ := h
    exact h _ (re.set (by rw [hl]; exact (List.getElem?_eq_some_iff.mp hi).1) r) (Same1.set (by simp))
theorem dgs_nil : DGs X [] [] gNilF := pgsI pgs_nil fun v s H Q hl h => by
  obtain ⟨m, p, st, ds, re, rs, r, h⟩ := h
  cases ds with
  | nil => simp only [RVs] at r; exact ⟨r, h s re Same1.refl⟩
  | cons _ _ => exact h.elim
theorem dgs_cons {e : Expr} {es : List Expr} {l l' : List Nat} {f : TgF} {g : TgsF} (h1 : DG X e l f) (h2 : DGs X es l' g) (hs : (assignEach (e :: es) X.env).map (·.2) = assign e X.env :: (assignEach es X.env).map (·.2) := by rfl) : DGs X (e :: es) (l ++ l') (gConsF f g) :=
  pgsI (pgs_cons h1 h2 hs) fun v s H Q hl h => by
    obtain ⟨m, p, st, ds, re, rs, r, h⟩ := h
    cases ds with
    | nil => exact h.elim
    | cons d ds =>
      simp only [RVs] at r
      obtain ⟨v0, vr, rfl, r0, r⟩ := r
      refine ⟨v0, vr, rfl, m, p, st, d, re, rs, r0, ?_⟩
      simp only [gConsF] at h
      cases q : f d p st with
      | none => rw [q] at h; exact h.elim
      | some p1 =>
        rw [q] at h
        refine fun s' re' sm => ⟨m, p1, st, ds, re', rs, r, ?_⟩
        dsimp only at h
        cases q2 : g ds p1 st with
        | none => rw [q2] at h; exact h.elim
        | some p2 => rw [q2] at h; exact fun s2 re2 sm2 => h s2 re2 (sm.trans sm2)
theorem dg_tup {es : List Expr} {k : Nat} {l : List Nat} {g : TgsF} {n : Nat} {pos : Pos} (hc : X.calm = true) (h : DGs X es l g) (hn : (assignEach es X.env).length = n := by rfl) (hst : (assignEach es X.env).findIdx? (·.1) = none := by rfl) : DG X (.Tuple es k pos) l (gTupF n g) :=
  pgI (pg_tup hc h hn hst) fun v s H Q hl h => by
    obtain ⟨m, p, st, d, re, rs, r, h⟩ := h
    cases d with
    | tup ds =>
      simp only [RV] at r
      obtain ⟨a, vs, rfl, ha, r⟩ := r
      simp only [gTupF] at h
      by_cases hz : ds.length = n
      · rw [if_pos hz] at h
        exact ⟨a, vs, rfl, ha, by rw [← r.len]; exact hz, m, p, st, ds, re, rs, r, h⟩
      · rw [if_neg hz] at h; exact h.elim
    | _ => exact h.elim
end

/-! ### comprehensions -/
def wipeR (p : Rho) : List Nat → Rho
  | [] => p
  | v :: vs => (wipeR p vs).set v none
theorem wipe_same {s s' : L2.St} {l : List Nat} (h : Same1 l s s') : ∀ {vs : List Nat}, (∀ j ∈ l, j ∈ vs) → wipe s' vs = wipe s vs := fun {vs} hl => by
  have key : ∀ (vs : List Nat) (s : L2.St) (j : Nat), (wipe s vs)[j]? = if j ∈ vs then (if j < s.length then some none else none) else s[j]? := by
    intro vs
    induction vs with
    | nil => intro s j; simp [wipe]
    | cons v vs ih =>
      intro s j
      unfold wipe
      by_cases hj : v = j
      · subst hj
        by_cases hlt : v < s.length
        · rw [List.getElem?_set_self (by rw [wipe_length]; exact hlt)]; simp [hlt]
        · rw [List.getElem?_eq_none (by rw [List.length_set, wipe_length]; omega)]; simp [hlt]
      · rw [List.getElem?_set_ne hj, ih s j]
        have : j ≠ v := fun e => hj e.symm
        simp [this]
  refine List.ext_getElem? fun j => ?_
  rw [key, key, h.1]
  split
  · rfl
  · rename_i hj
    exact h.2 j fun q => hj (hl j q)
theorem RE.wipe {K : PySem.W.Frag} {m : List Addr} {H : Hp} {p : Rho} {s : L2.St} (re : RE K m H p s) : ∀ vs : List Nat, RE K m H (wipeR p vs) (L2.wipe s vs)
  | [] => re
  | v :: vs => fun j d e => by
    unfold wipeR at e
    unfold L2.wipe
    by_cases hj : v = j
    · subst hj
      by_cases hp : v < (wipeR p vs).length
      · rw [List.getElem?_set_self hp] at e; cases e
      · rw [List.getElem?_eq_none (by simpa using hp)] at e; cases e
    · rw [List.getElem?_set_ne hj] at e
      rw [List.getElem?_set_ne hj]
      exact re.wipe vs j d e
def W0 : WX := fun _ _ _ _ => False
def noX {α : Type} (r : R α) : R α := match r with
  | .exc _ _ => .bad
  | r => r
theorem noX_ok {α : Type} (a : α) (st : Store) : noX (.ok a st) = .ok a st := rfl
open Classical in
noncomputable def compGo (still : Store → Prop) (tg : TgF) (tt : TF1) (te : EF) (p : Rho) : List D → Store → R (List D)
  | [], st => if still st then .ok [] st else .bad
  | d :: ds, st => if still st then (match tg d p st with
    | none => .bad
    | some p1 => bindR (noX (tt p1 st)) fun b st1 => if b = true then bindR (noX (te p1 st1)) fun y st2 => bindR (compGo still tg tt te p ds st2) fun ys st3 => .ok (y :: ys) st3 else compGo still tg tt te p ds st1) else .bad
noncomputable def eLC (fi : IF) (own : List Nat) (tg : TgF) (tt : TF1) (te : EF) : EF := fun p st => bindR (fi p st) fun it st1 => bindR (compGo it.still tg tt te (wipeR p own) it.items st1) fun ys st2 => optR (mkLst ys st2)
def tYesF : TF1 := fun _ st => .ok true st
def DTs (cm : Str → Option Value) (W : WX) (X : Cx) (es : List Expr) (f : TF1) : Prop := PTs X es (LiftT cm X.K W f)
section
variable {cm : Str → Option Value} {W : WX} {X : Cx}
theorem ptsI {e : List Expr} {t t' : TT} (h : PTs X e t) (i : ∀ s H Q, t' s H Q → t s H Q) : PTs X e t' := ⟨fun pins s σ H Q I q => h.run pins s σ H Q I (i _ _ _ q)⟩
theorem dts_nil : DTs cm W X [] tYesF := ptsI pts_nil fun s H Q h => by
  obtain ⟨m, p, st, re, rs, h⟩ := h
  exact h m H true Ext.refl rs rfl
theorem dts_one {c : Expr} {t : TF1} (h : DT cm W X c t) : DTs cm W X [c] t := pts_one h
theorem upd_id {H : Hp} {a : Addr} {o : HO} (h : H a = some o) : upd H a o = H := by
  funext b; unfold upd; split
  · rename_i e; rw [e, h]
  · rfl
theorem noX_post {α β : Type} {K : PySem.W.Frag} {rel : List Addr → Hp → α → β → Prop} {m : List Addr} {H : Hp} {r : R α} {Q : β → Hp → Prop} {s : L2.St} (h : ∃ a st, noX r = .ok a st ∧ ∀ m' H' v, Ext m H m' H' → RSt K m' H' st → rel m' H' a v → Q v H') : Post cm K rel (fun c d H' => W0 c d s H') m H r Q := by
  obtain ⟨a, st, e, h⟩ := h
  cases r with
  | ok d st' => cases e; exact h
  | exc x st' => cases e
  | bad => cases e
theorem bindR_inv {α β : Type} {r : R α} {f : α → Store → R β} {b : β} {st : Store} (h : bindR r f = .ok b st) : ∃ a st1, r = .ok a st1 ∧ f a st1 = .ok b st := by
  cases r with
  | ok a st1 => exact ⟨a, st1, rfl, h⟩
  | exc _ _ => cases h
  | bad => cases h
theorem tf_lst {H : Hp} {D0 : Addr} {vs : List V} (h : H D0 = some (.lst vs)) : ∀ u, H D0 = some u → ¬ TF u := fun u e t => by
  rw [h] at e; cases e
  rcases t with ⟨_, t⟩ | ⟨_, _, t⟩ | ⟨_, t⟩ <;> cases t
/-- THE comprehension's turns -/
theorem lc_turns {K : PySem.W.Frag} {ftg : TgF} {ftt : TF1} {fe : EF} {l : List Nat} {vs : List Nat} {it : IT} {J : It} {m1 : List Addr} {H1 : Hp} {st1 st2 : Store} {p : Rho} {s : L2.St} {ys : List D} {Q : VK} {D0 : Addr}
    (hl : ∀ j ∈ l, j ∈ vs) (re : RE K m1 H1 p s) (rs1 : RSt K m1 H1 st1) (ir : ItRel K m1 H1 it J) (hgo : compGo it.still ftg ftt fe (wipeR p vs) it.items st1 = .ok ys st2) (hz : ys.length ≤ LIM) (hD : H1 D0 = none)
    (hQ : PostO K (RV K) m1 H1 (alloc (.lst ys) st2) Q) :
    ∃ Wv : Nat → Nat → Hp → Prop, (∃ m, Wv 0 m (upd H1 D0 (.lst []))) ∧ ∀ i m H, Wv i m H →
      (J.stop i H ∧ Q (.ref D0) H) ∨ (J.go i H ∧ ∃ Nx : Hp → Prop, (∀ H', Nx H' → ∃ m', m' < m ∧ Wv (i + 1) m' H') ∧ ∀ x H', J.yld i H x H' → LiftTg K l ftg x (L2.wipe s vs) H' fun s2 H2 => L2.wipe s2 vs = L2.wipe s vs ∧ LiftT cm K W0 ftt s2 H2 fun b H3 =>
        if b = true then LiftE cm K W0 fe s2 H3 fun y H4 => ∃ acc, H4 D0 = some (.lst acc) ∧ acc.length < sizeLine ∧ Nx (upd H4 D0 (.lst (acc ++ [y]))) else Nx H3) := by
  let P : Nat → Hp → Prop := fun i H => ∃ m2 st' acc vacc rest, Ext m1 H1 m2 H ∧ RSt K m2 H st' ∧ H D0 = some (.lst vacc) ∧ D0 ∉ m2 ∧ RVs K m2 H acc vacc ∧ compGo it.still ftg ftt fe (wipeR p vs) (it.items.drop i) st' = .ok rest st2 ∧ acc ++ rest = ys
  have nD : D0 ∉ m1 := rs1.fresh hD
  refine ⟨fun i m H => m = it.items.length - i ∧ i ≤ it.items.length ∧ P i H, ⟨_, rfl, Nat.zero_le _, m1, st1, [], [], ys, Ext.touch Ext.refl hD, rs1.beside hD, upd_same, nD, RVs.nil, by simpa using hgo, rfl⟩, ?_⟩
  rintro i mm H ⟨rfl, hi, m2, st', acc, vacc, rest, x2, rs2, hDl, nD2, racc, hgo', hys⟩
  by_cases hlt : i < it.items.length
  · right
    have hd : it.items[i]? = some it.items[i] := List.getElem?_eq_getElem hlt
    rw [List.drop_eq_getElem_cons hlt] at hgo'
    unfold compGo at hgo'
    split at hgo'
    · rename_i hstill
      obtain ⟨jgo, jy⟩ := ir.1 i _ m2 H st' hd x2 rs2 hstill
      refine ⟨jgo, P (i + 1), fun H' q => ⟨it.items.length - (i + 1), by omega, rfl, hlt, q⟩, fun x H' hy => ?_⟩
      obtain ⟨x3, rs3, rx⟩ := jy x H' hy
      have hDl3 := x3.keep _ _ hDl nD2
      refine ⟨m2, wipeR p vs, st', it.items[i], ((re.ext rs1 x2).ext rs2 x3).wipe vs, rs3, rx, ?_⟩
      cases qt : ftg it.items[i] (wipeR p vs) st' with
      | none => rw [qt] at hgo'; cases hgo'
      | some p1 =>
        rw [qt] at hgo'
        dsimp only at hgo'
        refine fun s2 re2 sm => ⟨?_, m2, p1, st', re2, rs3, noX_post ?_⟩
        · rw [wipe_same sm hl]
          have : ∀ (vs : List Nat) (s : L2.St), L2.wipe (L2.wipe s vs) vs = L2.wipe s vs := fun vs s => wipe_same (l := vs) ⟨wipe_length s vs, fun j hj => by
            have key : ∀ (vs : List Nat), j ∉ vs → (L2.wipe s vs)[j]? = s[j]? := by
              intro vs
              induction vs with
              | nil => intro _; rfl
              | cons v vs ih =>
                intro h
                rw [List.mem_cons, not_or] at h
                unfold L2.wipe
                rw [List.getElem?_set_ne (fun e => h.1 e.symm)]
                exact ih h.2
            exact key vs hj⟩ fun _ h => h
          exact this vs s
        · obtain ⟨b, st4, eb, hgo'⟩ := bindR_inv hgo'
          refine ⟨b, st4, eb, fun m4 H4 b' x4 rs4 e => ?_⟩
          subst e
          have hDl4 := x4.keep _ _ hDl3 nD2
          have nD4 := x4.notin hDl3 nD2
          cases b with
          | false =>
            rw [if_neg (by simp)] at hgo' ⊢
            exact ⟨m4, st4, acc, vacc, rest, (x2.trans rs2 x3).trans rs3 x4, rs4, hDl4, nD4, RVs.ext rs3 x4 _ (RVs.ext rs2 x3 _ racc), hgo', hys⟩
          | true =>
            rw [if_pos rfl] at hgo' ⊢
            refine ⟨m4, p1, st4, re2.ext rs3 x4, rs4, noX_post ?_⟩
            obtain ⟨y, st5, ey, hgo'⟩ := bindR_inv hgo'
            obtain ⟨ys', st6, eys, hgo'⟩ := bindR_inv hgo'
            cases hgo'
            refine ⟨y, st5, ey, fun m5 H5 v x5 rs5 rv => ⟨vacc, x5.keep _ _ hDl4 nD4, ?_, ?_⟩⟩
            · have h1 := racc.len
              have h2 := congrArg List.length hys
              rw [List.length_append, List.length_cons] at h2
              have : vacc.length < LIM := by omega
              rw [lim_eq]; exact this
            · have hDl5 := x5.keep _ _ hDl4 nD4
              have nD5 := x5.notin hDl4 nD4
              have e0 : Ext0 m5 H5 m5 (upd H5 D0 (.lst (vacc ++ [v]))) := by simpa using ext0_touch (m := m5) (o := .lst (vacc ++ [v])) (tf_lst hDl5) (n := [])
              exact ⟨m5, st5, acc ++ [y], vacc ++ [v], ys', Ext.touch (((x2.trans rs2 x3).trans rs3 x4).trans rs4 x5) hD, rs5.aside nD5 (tf_lst hDl5), upd_same, nD5,
                RVs.append (RVs.ext0 e0 _ (RVs.ext rs4 x5 _ (RVs.ext rs3 x4 _ (RVs.ext rs2 x3 _ racc)))) (RVs.one (RV.ext0 e0 _ rv)), eys, by simpa using hys⟩
    · cases hgo'
  · left
    have e : i = it.items.length := by omega
    subst e
    rw [List.drop_length] at hgo'
    unfold compGo at hgo'
    split at hgo'
    · rename_i hstill
      cases hgo'
      rw [List.append_nil] at hys
      subst hys
      refine ⟨ir.2 m2 H st2 x2 rs2 hstill, ?_⟩
      have e := upd_id hDl
      have rs3 : RSt K (m2 ++ [D0]) H (st2 ++ [.lst acc]) := by
        have := rs2.adopt nD2 (tf_lst hDl) (ho := .lst vacc) (o := .lst acc) ⟨vacc, upd_same, RVs.ext0 (ext0_touch (tf_lst hDl)) _ racc⟩
        rw [e] at this; exact this
      have x3 : Ext m1 H1 (m2 ++ [D0]) H := by
        have := x2.adopt hD (o := .lst vacc)
        rw [e] at this; exact this
      exact hQ _ _ _ x3 rs3 (by simp only [RV]; exact ⟨D0, rfl, by rw [← rs2.len, List.getElem?_concat_length]⟩)
    · cases hgo'
theorem lift_lc {wi : TI} {fi : IF} {ftg : TgF} {ftt : TF1} {fe : EF} {l vs : List Nat} {s : L2.St} {H : Hp} {Q : VK} {K : PySem.W.Frag} (hl : ∀ j ∈ l, j ∈ vs) (h : LiftE cm K W (eLC fi vs ftg ftt fe) s H Q) :
    tLc (LiftI cm K W fi) (LiftTg K l ftg) (LiftT cm K W0 ftt) (LiftE cm K W0 fe) vs s H Q := by
  obtain ⟨m, p, st, re, rs, h⟩ := h
  refine ⟨m, p, st, re, rs, Post.split h fun it st1 m1 H1 J e1 x1 rs1 ir h1 => fun D0 hD => ?_⟩
  cases q : compGo it.still ftg ftt fe (wipeR p vs) it.items st1 with
  | bad => rw [q] at h1; exact h1.elim
  | exc e st2 =>
    exfalso
    have key : ∀ (ds : List D) (st1 : Store) e st2, compGo it.still ftg ftt fe (wipeR p vs) ds st1 ≠ .exc e st2 := by
      intro ds
      induction ds with
      | nil => intro st1 e st2 h; unfold compGo at h; split at h <;> cases h
      | cons d ds ih =>
        intro st1 e st2 h
        unfold compGo at h
        split at h
        · split at h
          · cases h
          · rename_i p1 _
            cases q1 : ftt p1 st1 with
            | bad => rw [q1] at h; cases h
            | exc _ _ => rw [q1] at h; cases h
            | ok b st3 =>
              rw [q1] at h
              simp only [noX, bindR] at h
              split at h
              · cases q2 : fe p1 st3 with
                | bad => rw [q2] at h; cases h
                | exc _ _ => rw [q2] at h; cases h
                | ok y st4 =>
                  rw [q2] at h
                  cases q3 : compGo it.still ftg ftt fe (wipeR p vs) ds st4 with
                  | bad => simp only [noX, bindR, q3] at h; cases h
                  | ok _ _ => simp only [noX, bindR, q3] at h; cases h
                  | exc e' st5 => exact ih _ _ _ q3
              · exact ih _ _ _ h
        · cases h
    exact key _ _ _ _ q
  | ok ys st2 =>
    rw [q] at h1
    have h2 := PostO.of h1
    unfold mkLst at h2
    split at h2
    · rename_i hz
      exact lc_turns hl (re.ext rs x1) rs1 ir q hz hD h2
    · exact h2.elim
theorem de_lc {elt tg iter : Expr} {ifs : List Expr} {scope : Scope} {own : List (Str × Nat)} {pos : Pos} {fi : IF} {ftg : TgF} {ftt : TF1} {fe : EF} {l : List Nat} (hc : X.calm = true) (hN : X.N.Nodup) (hi : DI cm W X tg iter fi) (ok : BlkOk X.N X.env.scope scope own)
    (hg : ∀ (s : Shared) (H : Hp) (C : Addr) (cl : List (Str × Addr)) (fp : List Addr), DG (X.blk s H scope (compEnvC scope cl C X.env) fp) tg l ftg) (ht : ∀ (s : Shared) (H : Hp) (C : Addr) (cl : List (Str × Addr)) (fp : List Addr), DTs cm W0 (X.blk s H scope (compEnvC scope cl C X.env) fp) ifs ftt)
    (he : ∀ (s : Shared) (H : Hp) (C : Addr) (cl : List (Str × Addr)) (fp : List Addr), DE cm W0 (X.blk s H scope (compEnvC scope cl C X.env) fp) elt fe) (hl : ∀ j ∈ l, j ∈ own.map (·.2) := by decide) (hs : ∀ x, foldedSetIterable iter X.env x = pure x := by intro _; rfl) :
    DE cm W X (.ListComp elt [⟨tg, iter, ifs, 0⟩] scope pos) (eLC fi (own.map (·.2)) ftg ftt fe) :=
  peI (pe_lc (g := LiftTg X.K l ftg) (tt := LiftT cm X.K W0 ftt) (te := LiftE cm X.K W0 fe) hc hN hi ok hg ht he hs) fun s H Q h => lift_lc (wi := LiftI cm X.K W fi) hl h

/-! ### statements -/
def sNil : SF := fun p st => .nx p st
def sSeq (a b : SF) : SF := fun p st => match a p st with
  | .nx p1 st1 => b p1 st1
  | r => r
def sRet (a : EF) : SF := fun p st => bindS p (a p st) fun d st1 => .rt d st1
def sRetN : SF := fun _ st => .rt .non st
def sExpr (a : EF) : SF := fun p st => bindS p (a p st) fun _ st1 => .nx p st1
def sIf (t : TF1) (a b : SF) : SF := fun p st => bindS p (t p st) fun x st1 => if x = true then a p st1 else b p st1
/-- name, or a tuple of names = e -/
def sAsg (a : EF) (g : TgF) : SF := fun p st => bindS p (a p st) fun d st1 => match g d p st1 with
  | some p1 => .nx p1 st1
  | none => .bad
def sPar2 (i j : Nat) (a : AF) : SF := fun p st => bindS p (a p st) fun ds st1 => match ds with
  | [d, e] => .nx ((p.set i (some d)).set j (some e)) st1
  | _ => .bad
def sPar3 (i j k : Nat) (a : AF) : SF := fun p st => bindS p (a p st) fun ds st1 => match ds with
  | [d, e, f] => .nx (((p.set i (some d)).set j (some e)).set k (some f)) st1
  | _ => .bad
section
variable {s1 : Stmt} {ss : List Stmt} {f g : SF} {e c : Expr} {fa : EF} {ft : TF1} {pos pos' : Pos}
theorem dss_nil : DSs cm W X [] sNil := pssI pss_nil fun D s H h => by
  obtain ⟨m, p, st, re, rs, h⟩ := h
  exact h m H s Ext.refl rs re
theorem seq_post {K : PySem.W.Frag} {D : Ends} {m : List Addr} {H : Hp} {p : Rho} {st : Store} (h : PostS cm K W m H (sSeq f g p st) D) : PostS cm K W m H (f p st) { D with nx := fun s' H' => LiftS cm K W g D s' H' } := by
  unfold sSeq at h
  cases q : f p st with
  | nx p1 st1 => rw [q] at h; exact fun m' H' s' e rs re => ⟨m', p1, st1, re, rs, PostS.at h e rs⟩
  | rt d st1 => rw [q] at h; exact h
  | bk p1 st1 => rw [q] at h; exact h
  | ct p1 st1 => rw [q] at h; exact h
  | xc x p1 st1 => rw [q] at h; exact h
  | bad => rw [q] at h; exact h
theorem dss_cons (h1 : DS cm W X s1 f) (h2 : DSs cm W X ss g) : DSs cm W X (s1 :: ss) (sSeq f g) := pssI (pss_cons h1 h2) fun D s H h => by
  obtain ⟨m, p, st, re, rs, h⟩ := h
  exact ⟨m, p, st, re, rs, seq_post h⟩
theorem dss_one (h1 : DS cm W X s1 f) : DSs cm W X [s1] f := pss_one h1
theorem ds_pass : DS cm W X (.Pass pos) sNil := psI ps_pass fun D s H h => by
  obtain ⟨m, p, st, re, rs, h⟩ := h
  exact h m H s Ext.refl rs re
theorem ds_ret (he : DE cm W X e fa) : DS cm W X (.Return (some e) pos) (sRet fa) := psI (ps_ret he) fun D s H h => by
  obtain ⟨m, p, st, re, rs, h⟩ := h
  exact ⟨m, p, st, re, rs, PostS.split re rs h fun d st1 m1 H1 v e1 x1 rs1 r1 h1 => h1 m1 H1 v Ext.refl rs1 r1⟩
theorem ds_retN : DS cm W X (.Return none pos) sRetN := psI ps_retN fun D s H h => by
  obtain ⟨m, p, st, re, rs, h⟩ := h
  exact h m H .non Ext.refl rs (by simp [RV])
theorem ds_expr (he : DE cm W X e fa) (hs : swapsWith e none pos.line X.env = pure false := by rfl) : DS cm W X (.Expr e pos) (sExpr fa) := psI (ps_expr he hs) fun D s H h => by
  obtain ⟨m, p, st, re, rs, h⟩ := h
  exact ⟨m, p, st, re, rs, PostS.split re rs h fun d st1 m1 H1 v e1 x1 rs1 r1 h1 => h1 m1 H1 s Ext.refl rs1 (re.ext rs x1)⟩
theorem ds_if {a b : List Stmt} (hc : DT cm W X c ft) (ha : DSs cm W X a f) (hb : DSs cm W X b g) : DS cm W X (.If c a b pos) (sIf ft f g) := psI (ps_if hc ha hb) fun D s H h => by
  obtain ⟨m, p, st, re, rs, h⟩ := h
  refine ⟨m, p, st, re, rs, PostS.split re rs h fun d st1 m1 H1 v e1 x1 rs1 r1 h1 => ?_⟩
  subst r1
  cases d with
  | true => exact ⟨m1, p, st1, re.ext rs x1, rs1, h1⟩
  | false => exact ⟨m1, p, st1, re.ext rs x1, rs1, h1⟩
theorem asg_post {K : PySem.W.Frag} {D : Ends} {l : List Nat} {tg : TgF} {s : L2.St} {H : Hp} (h : LiftS cm K W (sAsg fa tg) D s H) : LiftE cm K W fa s H fun x H1 => LiftTg K l tg x s H1 D.nx := by
  obtain ⟨m, p, st, re, rs, h⟩ := h
  refine ⟨m, p, st, re, rs, PostS.split re rs h fun d st1 m1 H1 v e1 x1 rs1 r1 h1 => ⟨m1, p, st1, d, re.ext rs x1, rs1, r1, ?_⟩⟩
  cases q : tg d p st1 with
  | none => rw [q] at h1; exact h1.elim
  | some p1 => rw [q] at h1; exact fun s' re' _ => h1 m1 H1 s' Ext.refl rs1 re'
theorem ds_asg {tg : Expr} {l : List Nat} {ftg : TgF} (he : DE cm W X e fa) (hg : DG X tg l ftg) (hs : swapsWithSole [tg] e pos.line X.env = pure false := by rfl) (hw : swappedStores [tg] e X.env = pure none := by rfl)
    (h1 : (assignEach [tg] X.env).map (·.2) = [assign tg X.env] := by rfl) : DS cm W X (.Assign [tg] e pos) (sAsg fa ftg) := psI (ps_asg he hg hs hw h1) fun D s H h => asg_post h
theorem psIL {e : Stmt} {t t' : TS} (h : PS X e t) (i : ∀ D s H, s.length = X.N.length → t' D s H → t D s H) : PS X e t' := ⟨fun pins s σ H Q I q => h.run pins s σ H Q I (i _ _ _ I.len q)⟩
theorem ds_set {i : Nat} {x : Str} (hN : X.N.Nodup) (he : DE cm W X e fa) (hi : X.N[i]? = some x := by rfl) (hx : Loc X.env.scope x := by first | exact Or.inl rfl | exact Or.inr rfl) (hs : swapsWith e (some (.Name x pos')) pos.line X.env = pure false := by rfl)
    (hf : X.fn x = true ∨ X.env.scope.names.lookup x = some .local := by first | exact .inl rfl | exact .inr rfl | assumption) : DS cm W X (.Assign [.Name x pos'] e pos) (sAsg fa (gNameF i)) :=
  psIL (ps_set hN hi hx he hs hf) fun D s H hl h => by
    obtain ⟨m, p, st, re, rs, h⟩ := h
    refine ⟨m, p, st, re, rs, PostS.split re rs h fun d st1 m1 H1 v e1 x1 rs1 r1 h1 => ?_⟩
    exact h1 m1 H1 _ Ext.refl rs1 ((re.ext rs x1).set (by rw [hl]; exact (List.getElem?_eq_some_iff.mp hi).1) r1)
/-- name = [..], on one line -/
theorem ds_setLc {i : Nat} {y : Str} {py : Pos} {elt tg iter : Expr} {ifs : List Expr} {scope : Scope} {own : List (Str × Nat)} {spos : Pos} {fi : IF} {ftg : TgF} {ftt : TF1} {fe : EF} {l : List Nat} (hc : X.calm = true) (hN : X.N.Nodup) (hi : DI cm W X tg iter fi) (ok : BlkOk X.N X.env.scope scope own)
    (hg : ∀ (s : Shared) (H : Hp) (C : Addr) (cl : List (Str × Addr)) (fp : List Addr), DG (X.blk s H scope (compEnvC scope cl C X.env) fp) tg l ftg) (ht : ∀ (s : Shared) (H : Hp) (C : Addr) (cl : List (Str × Addr)) (fp : List Addr), DTs cm W0 (X.blk s H scope (compEnvC scope cl C X.env) fp) ifs ftt)
    (he : ∀ (s : Shared) (H : Hp) (C : Addr) (cl : List (Str × Addr)) (fp : List Addr), DE cm W0 (X.blk s H scope (compEnvC scope cl C X.env) fp) elt fe) (hy : X.N[i]? = some y := by rfl) (hyl : X.env.scope.names.lookup y = some .local := by rfl)
    (hsw : swapsWith (.ListComp elt [⟨tg, iter, ifs, 0⟩] scope pos) (some (.Name y py)) spos.line X.env = pure true := by exact sw_true rfl rfl rfl (by decide +kernel)) (hl : ∀ j ∈ l, j ∈ own.map (·.2) := by decide) (hs : ∀ x, foldedSetIterable iter X.env x = pure x := by intro _; rfl) :
    DS cm W X (.Assign [.Name y py] (.ListComp elt [⟨tg, iter, ifs, 0⟩] scope pos) spos) (sAsg (eLC fi (own.map (·.2)) ftg ftt fe) (gNameF i)) :=
  psIL (ps_setLc (g := LiftTg X.K l ftg) (tt := LiftT cm X.K W0 ftt) (te := LiftE cm X.K W0 fe) hc hN hy hyl hsw hi ok hg ht he hs) fun D s H hlen h => by
    refine lift_lc (wi := LiftI cm X.K W fi) hl ?_
    obtain ⟨m, p, st, re, rs, h⟩ := h
    refine ⟨m, p, st, re, rs, PostS.split re rs h fun d st1 m1 H1 v e1 x1 rs1 r1 h1 => ?_⟩
    exact h1 m1 H1 _ Ext.refl rs1 ((re.ext rs x1).set (by rw [hlen]; exact (List.getElem?_eq_some_iff.mp hy).1) r1)
theorem ds_par2 {i j : Nat} {x y : Str} {a b : Expr} {fs : AF} {px py pt : Pos} {kt k2 pt2} (hc : X.calm = true) (hN : X.N.Nodup) (ha : DA cm W X [a, b] fs) (hi : X.N[i]? = some x := by rfl) (hj : X.N[j]? = some y := by rfl) (hij : i ≠ j := by decide)
    (hx : X.env.scope.names.lookup x = some .local := by rfl) (hy : X.env.scope.names.lookup y = some .local := by rfl)
    (hw : swappedStores [.Tuple [.Name x px, .Name y py] kt pt] (.Tuple [a, b] k2 pt2) X.env = pure (some [x, y]) := by rfl)
    (hs : swapsWithSole [.Tuple [.Name x px, .Name y py] kt pt] (.Tuple [a, b] k2 pt2) pos.line X.env = pure false := by rfl) :
    DS cm W X (.Assign [.Tuple [.Name x px, .Name y py] kt pt] (.Tuple [a, b] k2 pt2) pos) (sPar2 i j fs) :=
  psIL (ps_par hc hN hi hj hij hx hy ha hw hs) fun D s H hlen h => by
    obtain ⟨m, p, st, re, rs, h⟩ := h
    refine ⟨m, p, st, re, rs, PostS.split re rs h fun d st1 m1 H1 v e1 x1 rs1 r1 h1 => ?_⟩
    split at h1
    · simp only [RVs] at r1
      obtain ⟨v1, _, rfl, q1, v2, _, rfl, q2, rfl⟩ := r1
      exact ⟨v1, v2, rfl, h1 m1 H1 _ Ext.refl rs1 (((re.ext rs x1).set (by rw [hlen]; exact (List.getElem?_eq_some_iff.mp hi).1) q1).set (by rw [List.length_set, hlen]; exact (List.getElem?_eq_some_iff.mp hj).1) q2)⟩
    · exact h1.elim
theorem ds_par3 {i j k : Nat} {x y z : Str} {a b c : Expr} {fs : AF} {px py pz pt : Pos} {kt k2 pt2} (hc : X.calm = true) (hN : X.N.Nodup) (ha : DA cm W X [a, b, c] fs) (hi : X.N[i]? = some x := by rfl) (hj : X.N[j]? = some y := by rfl) (hk : X.N[k]? = some z := by rfl) (hij : i ≠ j := by decide) (hik : i ≠ k := by decide) (hjk : j ≠ k := by decide)
    (hx : X.env.scope.names.lookup x = some .local := by rfl) (hy : X.env.scope.names.lookup y = some .local := by rfl) (hz : X.env.scope.names.lookup z = some .local := by rfl)
    (hw : swappedStores [.Tuple [.Name x px, .Name y py, .Name z pz] kt pt] (.Tuple [a, b, c] k2 pt2) X.env = pure (some [x, y, z]) := by rfl)
    (hs : swapsWithSole [.Tuple [.Name x px, .Name y py, .Name z pz] kt pt] (.Tuple [a, b, c] k2 pt2) pos.line X.env = pure false := by rfl) :
    DS cm W X (.Assign [.Tuple [.Name x px, .Name y py, .Name z pz] kt pt] (.Tuple [a, b, c] k2 pt2) pos) (sPar3 i j k fs) :=
  psIL (ps_par3 hc hN hi hj hk hij hik hjk hx hy hz ha hw hs) fun D s H hlen h => by
    obtain ⟨m, p, st, re, rs, h⟩ := h
    refine ⟨m, p, st, re, rs, PostS.split re rs h fun d st1 m1 H1 v e1 x1 rs1 r1 h1 => ?_⟩
    split at h1
    · simp only [RVs] at r1
      obtain ⟨v1, _, rfl, q1, v2, _, rfl, q2, v3, _, rfl, q3, rfl⟩ := r1
      exact ⟨v1, v2, v3, rfl, h1 m1 H1 _ Ext.refl rs1 ((((re.ext rs x1).set (by rw [hlen]; exact (List.getElem?_eq_some_iff.mp hi).1) q1).set (by rw [List.length_set, hlen]; exact (List.getElem?_eq_some_iff.mp hj).1) q2).set (by rw [List.length_set, List.length_set, hlen]; exact (List.getElem?_eq_some_iff.mp hk).1) q3)⟩
    · exact h1.elim
end
end
end Mi
set_option Elab.async false
set_option linter.all false
set_option maxRecDepth 100000
set_option maxHeartbeats 4000000
/-! Mi4: loops, stores, slices, methods, calls, defs. -/
namespace Mi
open PySem PySem.Spec L2
open PyProof.Rows hiding St

/-! ### loops -/
open Classical in
noncomputable def forGo (still : Store → Prop) (tg : TgF) (body : SF) : List D → SF
  | [], p, st => if still st then .nx p st else .bad
  | d :: ds, p, st => if still st then (match tg d p st with
    | none => .bad
    | some p1 => match body p1 st with
      | .nx p2 st2 => forGo still tg body ds p2 st2
      | .ct p2 st2 => forGo still tg body ds p2 st2
      | .bk p2 st2 => .nx p2 st2
      | r => r) else .bad
noncomputable def sFor (fi : IF) (tg : TgF) (body : SF) : SF := fun p st => bindS p (fi p st) fun it st1 => forGo it.still tg body it.items p st1
def whGo (t : TF1) (body : SF) : Nat → SF
  | 0, _, _ => .bad
  | n + 1, p, st => bindS p (t p st) fun b st1 => if b = true then (match body p st1 with
      | .nx p2 st2 => whGo t body n p2 st2
      | .ct p2 st2 => whGo t body n p2 st2
      | .bk p2 st2 => .nx p2 st2
      | r => r) else .nx p st1
section
variable {cm : Str → Option Value} {W : WX} {X : Cx} {pos : Pos}
theorem for_turns {K : PySem.W.Frag} {ftg : TgF} {fb : SF} {l : List Nat} {it : IT} {J : It} {m1 : List Addr} {H1 : Hp} {st1 : Store} {p : Rho} {s : L2.St} {D : Ends}
    (re : RE K m1 H1 p s) (rs1 : RSt K m1 H1 st1) (ir : ItRel K m1 H1 it J) (h : PostS cm K W m1 H1 (forGo it.still ftg fb it.items p st1) D) :
    ∃ Wv : Nat → Nat → L2.St → Hp → Prop, (∃ m, Wv 0 m s H1) ∧ ∀ i m s H, Wv i m s H →
      (J.stop i H ∧ D.nx s H) ∨ (J.go i H ∧ ∃ N : L2.St → Hp → Prop, (∀ s' H', N s' H' → ∃ m', m' < m ∧ Wv (i + 1) m' s' H') ∧ ∀ x H', J.yld i H x H' → LiftTg K l ftg x s H' fun s2 H2 => LiftS cm K W fb { D with nx := N, ct := N, bk := D.nx } s2 H2) := by
  let P : Nat → L2.St → Hp → Prop := fun i s H => ∃ m2 p' st', Ext m1 H1 m2 H ∧ RSt K m2 H st' ∧ RE K m2 H p' s ∧ PostS cm K W m2 H (forGo it.still ftg fb (it.items.drop i) p' st') D
  refine ⟨fun i m s H => m = it.items.length - i ∧ i ≤ it.items.length ∧ P i s H, ⟨_, rfl, Nat.zero_le _, m1, p, st1, Ext.refl, rs1, re, by simpa using h⟩, ?_⟩
  rintro i mm s2 H ⟨rfl, hi, m2, p', st', x2, rs2, re2, h2⟩
  by_cases hlt : i < it.items.length
  · right
    have hd : it.items[i]? = some it.items[i] := List.getElem?_eq_getElem hlt
    rw [List.drop_eq_getElem_cons hlt] at h2
    unfold forGo at h2
    split at h2
    · rename_i hstill
      obtain ⟨jgo, jy⟩ := ir.1 i _ m2 H st' hd x2 rs2 hstill
      refine ⟨jgo, P (i + 1), fun s' H' q => ⟨it.items.length - (i + 1), by omega, rfl, hlt, q⟩, fun x H' hy => ?_⟩
      obtain ⟨x3, rs3, rx⟩ := jy x H' hy
      refine ⟨m2, p', st', it.items[i], re2.ext rs2 x3, rs3, rx, ?_⟩
      cases qt : ftg it.items[i] p' st' with
      | none => rw [qt] at h2; exact h2.elim
      | some p1 =>
        rw [qt] at h2
        dsimp only at h2
        refine fun s3 re3 sm => ⟨m2, p1, st', re3, rs3, ?_⟩
        have h3 := PostS.at h2 x3 rs3
        cases qb : fb p1 st' with
        | nx p2 st2 => rw [qb] at h3; exact fun m' H'' s' e rs re => ⟨m', p2, st2, (x2.trans rs2 x3).trans rs3 e, rs, re, PostS.at h3 e rs⟩
        | ct p2 st2 => rw [qb] at h3; exact fun m' H'' s' e rs re => ⟨m', p2, st2, (x2.trans rs2 x3).trans rs3 e, rs, re, PostS.at h3 e rs⟩
        | bk p2 st2 => rw [qb] at h3; exact h3
        | rt d st2 => rw [qb] at h3; exact h3
        | xc e p2 st2 => rw [qb] at h3; exact h3
        | bad => rw [qb] at h3; exact h3
    · exact h2.elim
  · left
    have e : i = it.items.length := by omega
    subst e
    rw [List.drop_length] at h2
    unfold forGo at h2
    split at h2
    · rename_i hstill
      exact ⟨ir.2 m2 H st' x2 rs2 hstill, h2 m2 H s2 Ext.refl rs2 re2⟩
    · exact h2.elim
theorem ds_for {tg iter : Expr} {body : List Stmt} {fi : IF} {l : List Nat} {ftg : TgF} {fb : SF} (hp : PassesOwn (model X.prog X.w) X.A X.env X.xe) (hc : X.calm = true) (hi : DI cm W X tg iter fi) (hg : DG X tg l ftg) (hb : DSs cm W X body fb)
    (hs : ∀ x, foldedSetIterable iter X.env x = pure x := by intro _; rfl) : DS cm W X (.For tg iter body [] pos) (sFor fi ftg fb) :=
  psI (ps_for hp hc hi hg hb hs) fun D s H h => by
    obtain ⟨m, p, st, re, rs, h⟩ := h
    exact ⟨m, p, st, re, rs, PostS.split re rs h fun it st1 m1 H1 J e1 x1 rs1 ir h1 => for_turns (l := l) (re.ext rs x1) rs1 ir h1⟩
theorem ds_while {c : Expr} {body : List Stmt} {ft : TF1} {fb : SF} (n : Nat) (hp : PassesOwn (model X.prog X.w) X.A X.env X.xe) (hc : DT cm W X c ft) (hb : DSs cm W X body fb) : DS cm W X (.While c body [] pos) (whGo ft fb n) :=
  psI (ps_while hp hc hb) fun D s H h => by
    obtain ⟨m, p, st, re, rs, h⟩ := h
    refine ⟨fun k s H => ∃ m p st, RE X.K m H p s ∧ RSt X.K m H st ∧ PostS cm X.K W m H (whGo ft fb k p st) D, ⟨n, m, p, st, re, rs, h⟩, ?_⟩
    rintro k s H ⟨m, p, st, re, rs, h⟩
    cases k with
    | zero => exact h.elim
    | succ k =>
      refine ⟨m, p, st, re, rs, PostS.split re rs h fun d st1 m1 H1 v e1 x1 rs1 r1 h1 => ?_⟩
      subst r1
      cases d with
      | false => exact h1 m1 H1 s Ext.refl rs1 (re.ext rs x1)
      | true =>
        rw [if_pos rfl]
        rw [if_pos rfl] at h1
        refine ⟨fun s' H' => ∃ m p st, RE X.K m H' p s' ∧ RSt X.K m H' st ∧ PostS cm X.K W m H' (whGo ft fb k p st) D, fun s' H' q => ⟨k, Nat.lt_succ_self k, q⟩, m1, p, st1, re.ext rs x1, rs1, ?_⟩
        cases qb : fb p st1 with
        | nx p2 st2 => rw [qb] at h1; exact fun m' H'' s' e rs re => ⟨m', p2, st2, re, rs, PostS.at h1 e rs⟩
        | ct p2 st2 => rw [qb] at h1; exact fun m' H'' s' e rs re => ⟨m', p2, st2, re, rs, PostS.at h1 e rs⟩
        | bk p2 st2 => rw [qb] at h1; exact h1
        | rt d st2 => rw [qb] at h1; exact h1
        | xc e p2 st2 => rw [qb] at h1; exact h1
        | bad => rw [qb] at h1; exact h1
end

/-! ### dicts -/
def kvGet (kvs : List (Key × D)) (k : Key) : Option D := (kvs.find? fun kv => decide (kv.1 = k)).map (·.2)
def kvPut (kvs : List (Key × D)) (k : Key) (v : D) : List (Key × D) :=
  if (kvs.any fun kv => decide (kv.1 = k)) = true then kvs.map (fun kv => if kv.1 = k then (kv.1, v) else kv) else kvs ++ [(k, v)]
section
variable {K : PySem.W.Frag} {m : List Addr} {H : Hp}
theorem RKs.inv {k : Key} {d : D} {kvs : List (Key × D)} {ws : List (Key × V)} (h : RKs K m H ((k, d) :: kvs) ws) : ∃ v wr, ws = (k, v) :: wr ∧ RV K m H d v ∧ RKs K m H kvs wr := by
  obtain ⟨h1, h2⟩ := h
  cases ws with
  | nil => simp at h1
  | cons w wr =>
    simp only [List.map_cons, List.cons.injEq, RVs] at h1 h2
    obtain ⟨v, vr, ⟨e1, e2⟩, r, h2⟩ := h2
    refine ⟨v, wr, ?_, r, h1.2, ?_⟩
    · rw [h1.1, ← e1]
    · rw [e2]; exact h2
theorem RKs.nil_inv {ws : List (Key × V)} (h : RKs K m H [] ws) : ws = [] := by
  obtain ⟨h1, _⟩ := h
  cases ws with
  | nil => rfl
  | cons w wr => simp at h1
theorem RKs.cons {k : Key} {d : D} {v : V} {kvs : List (Key × D)} {ws : List (Key × V)} (r : RV K m H d v) (h : RKs K m H kvs ws) : RKs K m H ((k, d) :: kvs) ((k, v) :: ws) :=
  ⟨by simp [h.1], by simp only [List.map_cons]; exact RVs.cons r h.2⟩
theorem RKs.nil : RKs K m H [] [] := ⟨rfl, by simp [RVs]⟩
theorem RKs.length {kvs : List (Key × D)} {ws : List (Key × V)} (h : RKs K m H kvs ws) : kvs.length = ws.length := by
  have := congrArg List.length h.1
  simpa using this
theorem RKs.get (k : Key) : ∀ {kvs : List (Key × D)} {ws : List (Key × V)}, RKs K m H kvs ws → ∀ {d : D}, kvGet kvs k = some d → ∃ v, valV ws k = some v ∧ RV K m H d v
  | [], ws, h, d, e => by cases e
  | (k0, d0) :: kvs, ws, h, d, e => by
    obtain ⟨v, wr, rfl, r, h⟩ := h.inv
    by_cases hk : k0 = k
    · rw [valV_pos hk]
      have : d0 = d := by simpa [kvGet, List.find?_cons, hk] using e
      subst this
      exact ⟨v, rfl, r⟩
    · rw [valV_neg hk]
      exact RKs.get k h (by simpa [kvGet, List.find?_cons, hk] using e)
theorem RKs.any (k : Key) {kvs : List (Key × D)} {ws : List (Key × V)} (h : RKs K m H kvs ws) : (kvs.any fun kv => decide (kv.1 = k)) = (ws.any fun kv => decide (kv.1 = k)) := by
  have e1 : (kvs.any fun kv => decide (kv.1 = k)) = (kvs.map (·.1)).any fun x => decide (x = k) := by rw [List.any_map]; rfl
  have e2 : (ws.any fun kv => decide (kv.1 = k)) = (ws.map (·.1)).any fun x => decide (x = k) := by rw [List.any_map]; rfl
  rw [e1, e2, h.1]
theorem RKs.append : ∀ {kvs kvs' : List (Key × D)} {ws ws' : List (Key × V)}, RKs K m H kvs ws → RKs K m H kvs' ws' → RKs K m H (kvs ++ kvs') (ws ++ ws')
  | [], _, ws, _, h, h' => by rw [h.nil_inv]; exact h'
  | (k, d) :: kvs, _, ws, _, h, h' => by
    obtain ⟨v, wr, rfl, r, h⟩ := h.inv
    exact RKs.cons r (RKs.append h h')
theorem RKs.put (k : Key) {d : D} {v : V} (r : RV K m H d v) {kvs : List (Key × D)} {ws : List (Key × V)} (h : RKs K m H kvs ws) : RKs K m H (kvPut kvs k d) (putK ws k v) := by
  unfold kvPut putK
  rw [h.any k]
  split
  · have : ∀ {kvs : List (Key × D)} {ws : List (Key × V)}, RKs K m H kvs ws → RKs K m H (kvs.map fun kv => if kv.1 = k then (kv.1, d) else kv) (ws.map fun kv => if kv.1 = k then (kv.1, v) else kv) := by
      intro kvs
      induction kvs with
      | nil => intro ws h; rw [h.nil_inv]; exact RKs.nil
      | cons q kvs ih =>
        intro ws h
        obtain ⟨k0, d0⟩ := q
        obtain ⟨v0, wr, rfl, r0, h⟩ := h.inv
        simp only [List.map_cons]
        by_cases hk : k0 = k
        · rw [if_pos hk, if_pos hk]; exact RKs.cons r (ih h)
        · rw [if_neg hk, if_neg hk]; exact RKs.cons r0 (ih h)
    exact this h
  · exact h.append (RKs.cons r RKs.nil)
theorem RKs.ext0 {m' : List Addr} {H' : Hp} (e : Ext0 m H m' H') {kvs : List (Key × D)} {ws : List (Key × V)} (h : RKs K m H kvs ws) : RKs K m' H' kvs ws := ⟨h.1, RVs.ext0 e _ h.2⟩
theorem ext0_over {a : Addr} {o u : HO} (h : H a = some u) (ht : ¬ TF u) : Ext0 m H m (upd H a o) := by
  simpa using ext0_touch (m := m) (o := o) (fun u' e => by rw [h] at e; cases e; exact ht) (n := [])
theorem tf_no_lst {vs : List V} : ¬ TF (.lst vs) := fun t => by rcases t with ⟨_, t⟩ | ⟨_, _, t⟩ | ⟨_, t⟩ <;> cases t
theorem tf_no_dK {vs : List (Key × V)} : ¬ TF (.dK vs) := fun t => by rcases t with ⟨_, t⟩ | ⟨_, _, t⟩ | ⟨_, t⟩ <;> cases t
end

/-! ### stores to items -/
def setItemF (o i d : D) (st : Store) : Option Store := match o, i with
  | .ref l, .str x => match st[l]? with
    | some (.dic kvs) => if kvs.length < LIM then some (st.set l (.dic (kvPut kvs (Sum.inr x) d))) else none
    | _ => none
  | .ref l, .int k => match st[l]? with
    | some (.dic kvs) => if kvs.length < LIM then some (st.set l (.dic (kvPut kvs (Sum.inl k) d))) else none
    | some (.lst ds) => (ixN ds.length k).map fun j => st.set l (.lst (ds.set j d))
    | _ => none
  | _, _ => none
/-- o[i] = e: the value first -/
def sSub (o i a : EF) : SF := fun p st => bindS p (a p st) fun d st1 => bindS p (o p st1) fun od st2 => bindS p (i p st2) fun id st3 => match setItemF od id d st3 with
  | some st4 => .nx p st4
  | none => .bad
section
variable {cm : Str → Option Value} {W : WX} {X : Cx} {pos : Pos}
def LSet (K : PySem.W.Frag) : TSet := fun o i v H Q => ∃ m st od id d, RSt K m H st ∧ RV K m H od o ∧ RV K m H id i ∧ RV K m H d v ∧ match setItemF od id d st with
  | some st' => ∀ m' H', Ext m H m' H' → RSt K m' H' st' → Q H'
  | none => False
theorem set_dic (hu : X.A.units + 1 < cLine) {pins : List (Addr × Obj)} {s : Shared} {σ : L2.St} {H : Hp} {a : Addr} {k : Key} {v : V} {iv u : Value} {Q : Hp → Prop} {m : List Addr} {st : Store} {l : Nat} {d : D} {kvs : List (Key × D)} (I : Inv X pins σ H s) (ri : RelV (kV k) iv) (rv : RelV v u)
    (rs : RSt X.K m H st) (ha : m[l]? = some a) (hs : st[l]? = some (.dic kvs)) (hlen : kvs.length < LIM) (rd : RV X.K m H d v)
    (h : ∀ m' H', Ext m H m' H' → RSt X.K m' H' (st.set l (.dic (kvPut kvs k d))) → Q H') : wpAny (model X.prog X.w) X.A (setItem (.ref a) iv u) (fun _ s' => ∃ H', Inv X pins σ H' s' ∧ Q H') X.xe s := by
  obtain ⟨ws, h1, h2⟩ := rs.dic ha hs
  refine d_setItem hu I (DPut.k h1 (by rw [← h2.length, lim_eq]; exact hlen)) ri rv fun s' I' => ⟨_, I', ?_⟩
  have e0 : Ext0 m H m (upd H a (.dK (putK ws k v))) := ext0_over h1 tf_no_dK
  exact h m _ (ext_write (List.mem_of_getElem? ha)) (rs.write ha ⟨_, upd_same, (h2.ext0 e0).put k (RV.ext0 e0 _ rd)⟩)
theorem set_any (hu : X.A.units + 1 < cLine) : PSet X (LSet X.K) := by
  intro pins s σ H o i v ov iv u Q I ro ri rv h
  obtain ⟨m, st, od, id, d, rs, r1, r2, r3, h⟩ := h
  cases od with
  | ref l =>
    simp only [RV] at r1
    obtain ⟨a, rfl, ha⟩ := r1
    cases id with
    | str x =>
      simp only [RV] at r2
      subst r2
      cases hs : st[l]? with
      | none => simp only [setItemF, hs] at h
      | some ob =>
        cases ob with
        | lst ds => simp only [setItemF, hs] at h
        | err _ _ => simp only [setItemF, hs] at h
        | dic kvs =>
          simp only [setItemF, hs] at h
          by_cases hl : kvs.length < LIM
          · rw [if_pos hl] at h
            cases ro
            exact set_dic hu (k := Sum.inr x) I ri rv rs ha hs hl r3 h
          · rw [if_neg hl] at h; exact h.elim
    | int k =>
      simp only [RV] at r2
      subst r2
      cases hs : st[l]? with
      | none => simp only [setItemF, hs] at h
      | some ob =>
        cases ob with
        | err _ _ => simp only [setItemF, hs] at h
        | dic kvs =>
          simp only [setItemF, hs] at h
          by_cases hl : kvs.length < LIM
          · rw [if_pos hl] at h
            cases ro
            exact set_dic hu (k := Sum.inl k) I ri rv rs ha hs hl r3 h
          · rw [if_neg hl] at h; exact h.elim
        | lst ds =>
          simp only [setItemF, hs] at h
          cases hj : ixN ds.length k with
          | none => rw [hj] at h; exact h.elim
          | some j =>
            rw [hj] at h
            obtain ⟨vs, h1, h2⟩ := rs.lst ha hs
            refine set_list pins s σ H _ _ v ov iv u Q I ro ri rv ⟨a, vs, k, j, rfl, rfl, h1, by rw [← h2.len]; exact hj, ?_⟩
            have e0 : Ext0 m H m (upd H a (.lst (vs.set j v))) := ext0_over h1 tf_no_lst
            exact h m _ (ext_write (List.mem_of_getElem? ha)) (rs.write ha ⟨_, upd_same, RVs.set j (RV.ext0 e0 _ r3) (RVs.ext0 e0 _ h2)⟩)
    | _ => exact h.elim
  | _ => exact h.elim
theorem ds_sub {o i e : Expr} {fo fi fe : EF} {p2 : Pos} (hu : X.A.units + 1 < cLine) (ho : DE cm W X o fo) (hi : DE cm W X i fi) (he : DE cm W X e fe)
    (ha : ∀ v, assign (.Subscript o i p2) X.env v = (do
      let ov ← holding [v] (eval o X.env)
      let iv ← holding [v, ov] (eval i X.env)
      standAt p2
      holding [v, ov, iv] (setItem ov iv v)
      release [v, ov, iv] []) := by intro _; rfl)
    (hs : swapsWithSole [.Subscript o i p2] e pos.line X.env = pure false := by rfl) (hw : swappedStores [.Subscript o i p2] e X.env = pure none := by rfl)
    (h1 : (assignEach [.Subscript o i p2] X.env).map (·.2) = [assign (.Subscript o i p2) X.env] := by rfl) : DS cm W X (.Assign [.Subscript o i p2] e pos) (sSub fo fi fe) :=
  psI (ps_asg he (pg_sub ho hi (set_any hu) ha) hs hw h1) fun D s H h => by
    obtain ⟨m, p, st, re, rs, h⟩ := h
    refine ⟨m, p, st, re, rs, PostS.split re rs h fun d st1 m1 H1 v e1 x1 rs1 r1 h1 => ?_⟩
    refine ⟨m1, p, st1, re.ext rs x1, rs1, PostS.split (re.ext rs x1) rs1 h1 fun d2 st2 m2 H2 v2 e2 x2 rs2 r2 h2 => ?_⟩
    refine ⟨m2, p, st2, (re.ext rs x1).ext rs1 x2, rs2, PostS.split ((re.ext rs x1).ext rs1 x2) rs2 h2 fun d3 st3 m3 H3 v3 e3 x3 rs3 r3 h3 => ?_⟩
    refine ⟨m3, st3, d2, d3, d, rs3, RV.ext rs2 x3 _ r2, r3, RV.ext rs2 x3 _ (RV.ext rs1 x2 _ r1), ?_⟩
    have re3 := ((re.ext rs x1).ext rs1 x2).ext rs2 x3
    cases q : setItemF d2 d3 d st3 with
    | none => rw [q] at h3; exact h3.elim
    | some st4 => rw [q] at h3; exact fun m' H' x rs' => h3 m' H' s x rs' (re3.ext rs3 x)
end

/-! ### slices -/
abbrev OF := Rho → Store → R (Option Int)
def oNone : OF := fun _ st => .ok none st
def oSome (a : EF) : OF := fun p st => bindR (a p st) fun d st1 => match d with
  | .int i => .ok (some i) st1
  | _ => .bad
def eSl (g : D → Option Int → Option Int → Store → Option (D × Store)) (a : EF) (lo hi : OF) : EF := fun p st => bindR (a p st) fun x st1 => bindR (lo p st1) fun l st2 => bindR (hi p st2) fun h st3 => optR (g x l h st3)
section
variable {cm : Str → Option Value} {W : WX} {X : Cx} {pos p2 : Pos}
def DO (cm : Str → Option Value) (W : WX) (X : Cx) (e : Option Expr) (f : OF) : Prop := PO X e (LiftG cm X.K (fun _ _ (a b : Option Int) => a = b) W f)
theorem poI {e : Option Expr} {t t' : TO} (h : PO X e t) (i : ∀ s H Q, t' s H Q → t s H Q) : PO X e t' := ⟨fun pins s σ H Q I q => h.run pins s σ H Q I (i _ _ _ q)⟩
theorem do_none : DO cm W X none oNone := poI po_none fun s H Q h => by
  obtain ⟨m, p, st, re, rs, h⟩ := h
  exact h m H none Ext.refl rs rfl
theorem do_some {e : Expr} {f : EF} (h : DE cm W X e f) : DO cm W X (some e) (oSome f) := poI (po_some h) fun s H Q h => by
  obtain ⟨m, p, st, re, rs, h⟩ := h
  refine ⟨m, p, st, re, rs, Post.split h fun d st1 m1 H1 v e1 x1 rs1 r1 h1 => ?_⟩
  cases d with
  | int i => exact ⟨i, by simpa [RV] using r1, h1 m1 H1 _ Ext.refl rs1 rfl⟩
  | _ => exact h1.elim
def SlS (X : Cx) (g : D → Option Int → Option Int → Store → Option (D × Store)) : Prop :=
  SlR X fun x lo hi H Q => ∃ m st dx, RSt X.K m H st ∧ RV X.K m H dx x ∧ PostO X.K (RV X.K) m H (g dx lo hi st) Q
theorem de_slice {e : Expr} {lo hi : Option Expr} {f : EF} {fl fh : OF} {g : D → Option Int → Option Int → Store → Option (D × Store)} (hr : SlS X g) (he : DE cm W X e f) (hl : DO cm W X lo fl) (hh : DO cm W X hi fh) : DE cm W X (.Subscript e (.Slice lo hi none p2) pos) (eSl g f fl fh) :=
  peI (pe_slice hr he hl hh) fun s H Q h => by
    obtain ⟨m, p, st, re, rs, h⟩ := h
    refine ⟨m, p, st, re, rs, Post.split h fun d st1 m1 H1 v e1 x1 rs1 r1 h1 => ?_⟩
    refine ⟨m1, p, st1, re.ext rs x1, rs1, Post.split h1 fun l st2 m2 H2 v2 e2 x2 rs2 r2 h2 => ?_⟩
    refine ⟨m2, p, st2, (re.ext rs x1).ext rs1 x2, rs2, Post.split h2 fun h' st3 m3 H3 v3 e3 x3 rs3 r3 h3 => ?_⟩
    subst r2; subst r3
    exact ⟨m3, st3, d, rs3, RV.ext rs2 x3 _ (RV.ext rs1 x2 _ r1), PostO.of h3⟩
end

/-! ### methods -/
def tyD (T : String) (x : D) (st : Store) : Prop := match x with
  | .str _ => T = "str"
  | .ref l => (T = "list" ∧ ∃ ds, st[l]? = some (.lst ds)) ∨ (T = "dict" ∧ ∃ kvs, st[l]? = some (.dic kvs))
  | _ => False
open Classical in
noncomputable def eMt (T : String) (g : D → List D → Store → Option (D × Store)) (o : EF) (a : AF) : EF := fun p st => bindR (o p st) fun x st1 => if tyD T x st1 then bindR (a p st1) fun xs st2 => optR (g x xs st2) else .bad
section
variable {cm : Str → Option Value} {W : WX} {X : Cx} {pos apos cpos : Pos}
theorem tyD_v {K : PySem.W.Frag} {m : List Addr} {H : Hp} {st : Store} {T : String} {d : D} {v : V} (rs : RSt K m H st) (r : RV K m H d v) (t : tyD T d st) : tyV K T v H := by
  unfold tyD at t
  cases d with
  | str x => simp only [RV] at r; subst r; exact t
  | ref l =>
    simp only [RV] at r
    obtain ⟨a, rfl, ha⟩ := r
    rcases t with ⟨e, ds, h⟩ | ⟨e, kvs, h⟩
    · obtain ⟨vs, h1, _⟩ := rs.lst ha h
      exact .inl ⟨e, vs, SqL.of h1⟩
    · obtain ⟨vs, h1, _⟩ := rs.dic ha h
      exact .inr (.inr (.inl ⟨e, .inl ⟨vs, h1⟩⟩))
  | _ => exact t.elim
theorem de_m0 {o : Expr} {fo : EF} {name : Str} {T id : String} {g : D → List D → Store → Option (D × Store)} (pa : PlainAttrs T) (slot : Slot T name id) (hty : typeOf (.builtin id) = pure (.type "method_descriptor")) (hm : MtS X id g) (ho : DE cm W X o fo)
    (hbase : attributeBase o name X.env (eval o X.env) = eval o X.env := by rfl) (hline : (apos.endLine == cpos.line) = true := by rfl) : DE cm W X (.Call (.Attribute o name apos) [] [] cpos) (eMt T g fo aNil) :=
  peI (pe_bm0 pa slot hty hm ho hbase hline) fun s H Q h => by
    obtain ⟨m, p, st, re, rs, h⟩ := h
    refine ⟨m, p, st, re, rs, Post.split h fun d st1 m1 H1 v e1 x1 rs1 r1 h1 => ?_⟩
    split at h1
    · rename_i t
      exact ⟨tyD_v rs1 r1 t, m1, st1, d, [], rs1, r1, RVs.nil, PostO.of h1⟩
    · exact h1.elim
theorem de_m {o e : Expr} {es : List Expr} {fo : EF} {fs : AF} {name : Str} {T id : String} {g : D → List D → Store → Option (D × Store)} (pa : PlainAttrs T) (slot : Slot T name id) (hty : typeOf (.builtin id) = pure (.type "method_descriptor")) (hm : MtS X id g) (ho : DE cm W X o fo) (ha : DA cm W X (e :: es) fs)
    (hbase : attributeBase o name X.env (eval o X.env) = eval o X.env := by rfl)
    (hfew : ((backTo cpos (starEach (e :: es) X.env)).all (fun x => !x.1) && (backToKw cpos (keywordEach [] X.env)).all (fun x => x.1.isSome)
      && decide ((e :: es).length + ([] : List Keyword).length + (if ([] : List Keyword).isEmpty then 0 else 1) < 30)) = true := by rfl)
    (hline : (apos.endLine == cpos.line) = true := by rfl) (hs : starEach (e :: es) X.env = (false, eval e X.env) :: starEach es X.env := by rfl) (hplain : (backTo cpos (starEach es X.env)).any (·.1) = false := by rfl) : DE cm W X (.Call (.Attribute o name apos) (e :: es) [] cpos) (eMt T g fo fs) :=
  peI (pe_bm pa slot hty hm ho ha hbase hfew hline hs hplain) fun s H Q h => by
    obtain ⟨m, p, st, re, rs, h⟩ := h
    refine ⟨m, p, st, re, rs, Post.split h fun d st1 m1 H1 v e1 x1 rs1 r1 h1 => ?_⟩
    split at h1
    · rename_i t
      refine ⟨tyD_v rs1 r1 t, m1, p, st1, re.ext rs x1, rs1, Post.split h1 fun ds st2 m2 H2 v2 e2 x2 rs2 r2 h2 => ?_⟩
      exact ⟨m2, st2, d, ds, rs2, RV.ext rs1 x2 _ r1, r2, PostO.of h2⟩
    · exact h1.elim
end

/-! ### defs -/
def spD (cm : Str → Option Value) (K : PySem.W.Frag) (n : Nat) (F : FnF) : Sp := fun vs H Q E => vs.length = n ∧ ∃ m st ds, RSt K m H st ∧ RVs K m H ds vs ∧ Post cm K (RV K) (fun c d H' => E c d H') m H (F ds st) Q
/-- a def's promise, where no text of an object is being made around it -/
structure FnG (P : Program) (w : World) (K : PySem.W.Frag) (mg : Str → Option Value) (base : Heap) (k : Nat) (f : Addr) (fd : FuncData) (ps : List Str) (sp : Sp) : Prop where
  len : ∀ vs H Q E, sp vs H Q E → vs.length = ps.length
  go : ∀ (A : Around) (out : List Env) (s : Shared) (H : Hp) (args : Args) (us : List Value) (vs : List V) (Q : VK) (E : XK), A.guards = some [] → Room k A → Env0 P w K mg base A out s H →
    BindsTo s fd args (ps.zip us) → Vals vs us → sp vs H Q E → codeAny (model P w) A (.call (.ref f) args) (CR (L2.CX P w) out P w H s Q E) s
theorem FnG.mono {P : Program} {w : World} {K : PySem.W.Frag} {mg : Str → Option Value} {base : Heap} {k k' : Nat} {f : Addr} {fd : FuncData} {ps : List Str} {sp : Sp} (F : FnG P w K mg base k f fd ps sp) (h : k ≤ k') : FnG P w K mg base k' f fd ps sp :=
  ⟨F.len, fun A out s H args us vs Q E hg hr => F.go A out s H args us vs Q E hg (hr.mono h)⟩
/-- the def stands there, and does what F says -/
structure FnD (cm : Str → Option Value) (P : Program) (w : World) (K : PySem.W.Frag) (mg : Str → Option Value) (base : Heap) (k : Nat) (x : Str) (ps : List Str) (f : Addr) (fd : FuncData) (F : FnF) : Prop where
  ok : FnG P w K mg base k f fd ps (spD cm K ps.length F)
  at_ : mg x = some (.ref f)
  kp : PySem.W.keepIn K (.ref f) = true
  bd : Binds K fd ps []
theorem FnD.mono {cm : Str → Option Value} {P : Program} {w : World} {K : PySem.W.Frag} {mg : Str → Option Value} {base : Heap} {k k' : Nat} {x : Str} {ps : List Str} {f : Addr} {fd : FuncData} {F : FnF} (h : FnD cm P w K mg base k x ps f fd F) (hk : k ≤ k') : FnD cm P w K mg base k' x ps f fd F := ⟨h.ok.mono hk, h.at_, h.kp, h.bd⟩
section
variable {cm : Str → Option Value} {W : WX} {X : Cx} {pos : Pos}
theorem lift_spD {K : PySem.W.Frag} {fs : AF} {F : FnF} {n : Nat} {s : L2.St} {H : Hp} {Q : VK} (hn : ∀ p st ds st', fs p st = .ok ds st' → ds.length = n) (h : LiftE cm K W (eCall F fs) s H Q) : LiftA cm K W fs s H fun vs H1 => spD cm K n F vs H1 Q (fun c d H' => W c d s H') := by
  obtain ⟨m, p, st, re, rs, h⟩ := h
  refine ⟨m, p, st, re, rs, Post.split h fun ds st1 m1 H1 vs e1 x1 rs1 r1 h1 => ⟨?_, m1, st1, ds, rs1, r1, h1⟩⟩
  rw [← r1.len]; exact hn _ _ _ _ e1
/-- how many arguments -/
def ALen (f : AF) (n : Nat) : Prop := ∀ p st ds st', f p st = .ok ds st' → ds.length = n
theorem alen_nil : ALen aNil 0 := fun p st ds st' h => by cases h; rfl
theorem alen_cons {a : EF} {f : AF} {n : Nat} (h : ALen f n) : ALen (aCons a f) (n + 1) := fun p st ds st' e => by
  obtain ⟨x, st1, _, e⟩ := bindR_inv e
  obtain ⟨xs, st2, e2, e⟩ := bindR_inv e
  cases e
  rw [List.length_cons, h _ _ _ _ e2]
/-- behind a def's call -/
theorem run_G {k : Nat} {f : Addr} {fd : FuncData} {ps : List Str} {sp : Sp} {args : Args} {pins : List (Addr × Obj)} {σ : L2.St} {H : Hp} {s : Shared} {Q : VK} {us : List Value} {vs : List V} (F : FnG X.prog X.w X.K X.mg X.base k f fd ps sp) (tk : Takes X W) (hg : X.A.guards = some []) (hr : Room k X.A)
    (hb : BindsTo s fd args (ps.zip us)) (I : Inv X pins σ H s) (r : Vals vs us) (h : sp vs H Q (WE W σ)) : codeAny (model X.prog X.w) X.A (.call (.ref f) args) (fun r s' => match r with
      | .error e => X.xe e s'
      | .ok (.ret u) => EP X pins σ Q u s'
      | .ok _ => False) s := by
  refine codeAny_mono (F.go X.A X.stack s H args us vs Q _ hg hr I.env0 hb r h) fun r s' hq => ?_
  match r, hq with
  | .error e, hq => exact passAt tk σ pins H s e s' I hq
  | .ok (.ret u), hq => exact I.after hq
theorem de_call {k : Nat} {x : Str} {ps : List Str} {f : Addr} {fd : FuncData} {F : FnF} {e : Expr} {es : List Expr} {fs : AF} {pf : Pos} (G : FnD cm X.prog X.w X.K X.mg X.base k x ps f fd F) (tk : Takes X W) (hgd : X.A.guards = some []) (hr : Room k X.A) (hl : ALen fs ps.length) (ha : DA cm W X (e :: es) fs) (hg : Gl X x := by rfl)
    (hdb : (x == ("__debug__" : Str)) = false := by decide) (he : starEach (e :: es) X.env = (false, eval e X.env) :: starEach es X.env := by rfl) (hpl : (backTo pos (starEach es X.env)).any (·.1) = false := by rfl) : DE cm W X (.Call (.Name x pf) (e :: es) [] pos) (eCall F fs) := by
  refine ⟨fun pins s σ H Q I h => ?_⟩
  refine wpAny_Call_Name_kw (ld_glob I hg G.at_ ?_ hdb)
  refine PySem.W.callWith_K (h₀ := X.base) I.ok.mod.kin G.kp ?_ he hpl
  refine thn (ha.run pos pins s σ H _ I (lift_spD hl h)) fun us s1 ⟨vs, H1, I1, r, q⟩ => ⟨I1.kIn, ?_⟩
  have hu : us.length = ps.length := by rw [← r.length]; exact q.1
  have hb := G.bd s1 us I1.kIn (by rw [List.append_nil]; exact hu)
  rw [List.append_nil] at hb
  refine wpAny_call (codeAny_mono (run_G G.ok tk hgd hr hb I1 r q) fun r s' hq => ?_)
  match r, hq with
  | .error e, hq => exact hq
  | .ok (.ret u), hq => exact hq
end
end Mi
set_option Elab.async false
set_option linter.all false
set_option maxRecDepth 100000
set_option maxHeartbeats 4000000
/-! Mi5: calls by keywords, dict displays, match, a def's rule. -/
namespace Mi
open PySem PySem.Spec L2
open PyProof.Rows hiding St

/-! ### calls by keywords alone -/
section
variable {cm : Str → Option Value} {W : WX} {X : Cx} {pos : Pos}
def DK (cm : Str → Option Value) (W : WX) (X : Cx) (ks : List Keyword) (f : AF) : Prop := PK X ks (LiftA cm X.K W f)
theorem pkI {e : List Keyword} {t t' : TA} (h : PK X e t) (i : ∀ s H Q, t' s H Q → t s H Q) : PK X e t' := ⟨fun pos pins s σ H Q I q => h.run pos pins s σ H Q I (i _ _ _ q)⟩
theorem dk_nil : DK cm W X [] aNil := pkI pk_nil fun s H Q h => by
  obtain ⟨m, p, st, re, rs, h⟩ := h
  exact h m H [] Ext.refl rs RVs.nil
theorem dk_cons {nm : Option Str} {e : Expr} {kpos : Pos} {kws : List Keyword} {fa : EF} {fs : AF} (ha : DE cm W X e fa) (hr : DK cm W X kws fs) : DK cm W X (⟨nm, e, kpos⟩ :: kws) (aCons fa fs) := pkI (pk_cons ha hr) fun s H Q h => by
  obtain ⟨m, p, st, re, rs, h⟩ := h
  refine ⟨m, p, st, re, rs, Post.split h fun d1 st1 m1 H1 v1 e1 x1 rs1 r1 h1 => ?_⟩
  refine ⟨m1, p, st1, re.ext rs x1, rs1, Post.split h1 fun d2 st2 m2 H2 v2 e2 x2 rs2 r2 h2 => ?_⟩
  exact h2 m2 H2 _ Ext.refl rs2 (RVs.cons (RV.ext rs1 x2 _ r1) r2)
/-- two turned about, or as they are -/
def turn2 {α : Type} : List α → List α
  | [a, b] => [b, a]
  | l => l
/-- how keywords are put into the parameters' order -/
structure Perm1 (g : {α : Type} → List α → List α) : Prop where
  rel : ∀ {K : PySem.W.Frag} {m : List Addr} {H : Hp} {ds : List D} {vs : List V}, RVs K m H ds vs → RVs K m H (g ds) (g vs)
  vals : ∀ {vs : List V} {us : List Value}, Vals vs us → Vals (g vs) (g us)
  len : ∀ {α : Type} (l : List α), (g l).length = l.length
theorem perm_id : Perm1 (fun {α} (l : List α) => l) := ⟨fun h => h, fun h => h, fun _ => rfl⟩
theorem perm_two : Perm1 (fun {α} (l : List α) => turn2 l) := by
  refine ⟨fun {K m H ds vs} h => ?_, fun {vs us} h => ?_, fun {α} l => ?_⟩
  · cases ds with
    | nil => simp only [RVs] at h; subst h; exact RVs.nil
    | cons a ds =>
      cases ds with
      | nil => simp only [RVs] at h; obtain ⟨v, _, rfl, r, rfl⟩ := h; exact RVs.one r
      | cons b ds =>
        cases ds with
        | nil => simp only [RVs] at h; obtain ⟨v, _, rfl, r, v2, _, rfl, r2, rfl⟩ := h; exact RVs.cons r2 (RVs.one r)
        | cons c ds => simp only [RVs] at h; obtain ⟨v, _, rfl, r, v2, _, rfl, r2, v3, _, rfl, r3, h⟩ := h; exact RVs.cons r (RVs.cons r2 (RVs.cons r3 h))
  · cases h with
    | nil => exact .nil
    | cons r h =>
      cases h with
      | nil => exact .cons r .nil
      | cons r2 h =>
        cases h with
        | nil => exact .cons r2 (.cons r .nil)
        | cons r3 h => exact .cons r (.cons r2 (.cons r3 h))
  · match l with
    | [] => rfl
    | [_] => rfl
    | [_, _] => rfl
    | _ :: _ :: _ :: _ => rfl
/-- the keywords ks bind as g says -/
def KB0 (fd : FuncData) (ps ks : List Str) (g : {α : Type} → List α → List α) : Prop := ∀ (s : Shared) (ws : List Value), ws.length = ps.length → BindsTo s fd ⟨[], ks.zip ws⟩ (ps.zip (g ws))
theorem kb0_of {K : PySem.W.Frag} {x qual : Str} {st : Stmt} {f : Addr} {fd : FuncData} {ps ks : List Str} {g : {α : Type} → List α → List α} (F : Fun K x qual st f fd)
    (h : ∀ (kV doc pm : Value) (an : Option Addr) (cdv ct : Value) (ws : List Value), ws.length = ps.length → bindArgs (PySem.W.fnOf x qual (defArgs st) (defBody st) (defScope st) .none kV doc pm an cdv ct) ⟨[], ks.zip ws⟩ = pure (ps.zip (g ws))) : KB0 fd ps ks g := by
  obtain ⟨oc, od, kV, doc, pm, an, cdv, ct, osl, rfl, lk, hcd⟩ := F.ex
  exact fun s ws hl => .of_eq (h kV doc pm an cdv ct ws hl)
def eCallK (F : FnF) (g : {α : Type} → List α → List α) (a : AF) : EF := fun p st => bindR (a p st) fun xs st1 => F (g xs) st1
theorem de_callK {k : Nat} {x : Str} {ps ks : List Str} {f : Addr} {fd : FuncData} {F : FnF} {kws : List Keyword} {fs : AF} {pf : Pos} {g : {α : Type} → List α → List α} (G : FnD cm X.prog X.w X.K X.mg X.base k x ps f fd F) (pg : Perm1 g) (hb : KB0 fd ps ks g) (tk : Takes X W) (hgd : X.A.guards = some []) (hr : Room k X.A) (hl : ALen fs ps.length)
    (ha : DK cm W X kws fs) (hg : Gl X x := by rfl) (hall : (backToKw pos (keywordEach kws X.env)).all (·.1.isSome) = true := by rfl) (hks : (backToKw pos (keywordEach kws X.env)).filterMap (·.1) = ks := by rfl) (hdb : (x == ("__debug__" : Str)) = false := by decide)
    (hplain : ((backTo pos (starEach [] X.env)).any (·.1) || (backToKw pos (keywordEach kws X.env)).any (·.1.isNone)) = false := by rfl) : DE cm W X (.Call (.Name x pf) [] kws pos) (eCallK F g fs) := by
  refine ⟨fun pins s σ H Q I h => ?_⟩
  obtain ⟨m, p, st, re, rs, h⟩ := h
  refine wpAny_Call_Name_kw (ld_glob I hg G.at_ ?_ hdb)
  refine PySem.W.callWith_KW0 (h₀ := X.base) I.ok.mod.kin G.kp hall ?_ hplain
  refine thn (ha.run pos pins s σ H (fun vs H1 => vs.length = ps.length ∧ ∃ m st ds, RSt X.K m H1 st ∧ RVs X.K m H1 ds vs ∧ Post cm X.K (RV X.K) (fun c d H' => W c d σ H') m H1 (F (g ds) st) Q) I ⟨m, p, st, re, rs, Post.split h fun ds st1 m1 H1 vs e1 x1 rs1 r1 h1 => ⟨by rw [← r1.len]; exact hl _ _ _ _ e1, m1, st1, ds, rs1, r1, h1⟩⟩) fun ws s1 ⟨vs, H1, I1, r, hn, m1, st1, ds, rs1, r1, q⟩ => ⟨I1.kIn, ?_⟩
  rw [hks]
  have hwl : ws.length = ps.length := by rw [← r.length]; exact hn
  refine wpAny_call (codeAny_mono (run_G (args := ⟨[], ks.zip ws⟩) G.ok tk hgd hr (hb s1 ws hwl) I1 (pg.vals r) ⟨by rw [pg.len]; exact hn, m1, st1, g ds, rs1, pg.rel r1, q⟩) fun r s' hq => ?_)
  match r, hq with
  | .error e, hq => exact hq
  | .ok (.ret u), hq => exact hq
end

/-! ### dict displays -/
abbrev KF := Rho → Store → R (List (Key × D))
def kNil : KF := fun _ st => .ok [] st
def kCons (k : Key) (a : EF) (r : KF) : KF := fun p st => bindR (a p st) fun d st1 => bindR (r p st1) fun kvs st2 => .ok ((k, d) :: kvs) st2
def kvMerge (kvs : List (Key × D)) : List (Key × D) := kvs.foldl (fun acc kv => kvPut acc kv.1 kv.2) []
def mkDic (kvs : List (Key × D)) (st : Store) : Option (D × Store) := if kvs.length ≤ 15 then alloc (.dic (kvMerge kvs)) st else none
def eDic (f : KF) : EF := fun p st => bindR (f p st) fun kvs st1 => optR (mkDic kvs st1)
section
variable {cm : Str → Option Value} {W : WX} {X : Cx} {pos : Pos}
theorem de_dic0 : DE cm W X (.Dict [] [] pos) (eDic kNil) := peI pe_dnewK fun s H Q h => by
  obtain ⟨m, p, st, re, rs, h⟩ := h
  intro q hq
  exact postO_alloc (o := .dic []) rs (PostO.of h) hq ⟨[], upd_same, RKs.nil⟩
/-- the pairs of a display -/
def DPs (cm : Str → Option Value) (W : WX) (X : Cx) (pos : Pos) (keys : List (Option Expr)) (values : List Expr) (f : KF) : Prop :=
  ∃ trs, PPs X pos keys values trs ∧ ∀ {s H} {Q : List (Key × V) → Hp → Prop} {P : List (V × V) → Hp → Prop}, (∀ ws H2, Q ws H2 → P (ws.map fun kv => (kV kv.1, kv.2)) H2) → LiftG cm X.K (RKs X.K) W f s H Q → tPairs trs s H P
theorem dps_nil : DPs cm W X pos [] [] kNil := ⟨[], pps_nil, fun {s H Q P} i h => by
  obtain ⟨m, p, st, re, rs, h⟩ := h
  exact i [] H (h m H [] Ext.refl rs RKs.nil)⟩
theorem dps_str {k : Str} {e : Expr} {ks : List (Option Expr)} {vs : List Expr} {fa : EF} {r : KF} {j : Nat} {kp : Pos} (he : DE cm W X e fa) (hr : DPs cm W X pos ks vs r) : DPs cm W X pos (some (.Constant (.str k) j kp) :: ks) (e :: vs) (kCons (Sum.inr k) fa r) := by
  obtain ⟨trs, h1, h2⟩ := hr
  refine ⟨_, pps_cons pe_str he h1, fun {s H Q P} i h => ?_⟩
  obtain ⟨m, p, st, re, rs, h⟩ := h
  show LiftE cm X.K W fa s H fun y H2 => tPairs trs s H2 fun ps H3 => P ((V.str k, y) :: ps) H3
  refine ⟨m, p, st, re, rs, Post.split h fun d1 st1 m1 H1 v1 e1 x1 rs1 r1 q1 => ?_⟩
  refine h2 (s := s) (H := H1) (Q := fun ws H3 => Q ((Sum.inr k, v1) :: ws) H3) (fun ws H3 q => i _ _ q) ⟨m1, p, st1, re.ext rs x1, rs1, Post.split q1 fun d2 st2 m2 H2 v2 e2 x2 rs2 r2 q3 => q3 m2 H2 _ Ext.refl rs2 (RKs.cons (RV.ext rs1 x2 _ r1) r2)⟩
theorem RKs.merge {K : PySem.W.Frag} {m : List Addr} {H : Hp} {kvs : List (Key × D)} {ws : List (Key × V)} (h : RKs K m H kvs ws) : RKs K m H (kvMerge kvs) (mergeK [] ws) := by
  have : ∀ (kvs : List (Key × D)) (ws : List (Key × V)) (ac : List (Key × D)) (aw : List (Key × V)), RKs K m H kvs ws → RKs K m H ac aw → RKs K m H (kvs.foldl (fun acc kv => kvPut acc kv.1 kv.2) ac) (mergeK aw ws) := by
    intro kvs
    induction kvs with
    | nil => intro ws ac aw h h'; rw [h.nil_inv]; exact h'
    | cons q kvs ih =>
      intro ws ac aw h h'
      obtain ⟨k, d⟩ := q
      obtain ⟨v, wr, rfl, r, h⟩ := h.inv
      exact ih wr _ _ h (h'.put k r)
  exact this kvs ws [] [] h RKs.nil
theorem de_dic {keys : List (Option Expr)} {values : List Expr} {f : KF} (h : DPs cm W X pos keys values f) (hall : keys.all (·.isSome) = true := by rfl) (hl : keys.length = values.length := by rfl) (h0 : keys ≠ [] := by intro z; cases z) (h15 : keys.length ≤ 15 := by decide) : DE cm W X (.Dict keys values pos) (eDic f) := by
  obtain ⟨trs, h1, h2⟩ := h
  refine peI (pe_disp h1 hall hl h0 h15) fun s H Q h => ?_
  obtain ⟨m, p, st, re, rs, h⟩ := h
  intro q hq
  have xq : Ext m H m (upd H q (.dK [])) := ext_fresh hq
  have rsq := rs.beside hq (o := .dK [])
  have nq := rs.fresh hq
  refine h2 (Q := fun ws H2 => H2 q = some (.dK []) ∧ ws.length ≤ 15 ∧ Q (.ref q) (upd H2 q (.dK (mergeK [] ws)))) (fun ws H2 z => ⟨z.1, ws, rfl, z.2⟩) ⟨m, p, st, re.ext rs xq, rsq, ?_⟩
  have hp := Post.at h xq rsq
  have hp0 := h
  cases e : f p st with
  | bad => simp only [eDic, e] at h; exact h.elim
  | exc x st1 => simp only [eDic, e, bindR] at hp; exact hp
  | ok kvs st1 =>
    simp only [eDic, e, bindR] at hp0
    intro m' H' ws x rs' r
    have hq' := x.keep q _ upd_same nq
    have nq' := x.notin upd_same nq
    have z := PostO.of hp0
    unfold mkDic at z
    split at z
    · rename_i hz
      refine ⟨hq', by rw [← r.length]; exact hz, ?_⟩
      have x2 : Ext m H m' H' := xq.trans rsq x
      have tf : ∀ u, H' q = some u → ¬ TF u := fun u e => by rw [hq'] at e; cases e; exact tf_no_dK
      exact z _ _ _ (x2.adopt hq) (rs'.adopt nq' tf ⟨_, upd_same, (r.merge).ext0 (ext0_touch tf)⟩) (by simp only [RV]; exact ⟨q, rfl, by rw [← rs'.len, List.getElem?_concat_length]⟩)
    · exact z.elim
end

/-! ### match -/
abbrev PtF := D → Store → Option (Option (List D))
/-- a pattern: what it binds, by names -/
def DPt (X : Cx) (pt : Pattern) (ns : List Str) (f : PtF) : Prop :=
  ∀ (pins : List (Addr × Obj)) (s : Shared) (σ : L2.St) (H : Hp) (v : V) (u : Value) (m : List Addr) (st : Store) (d : D) (o : Option (List D)), Inv X pins σ H s → RelV v u → RSt X.K m H st → RV X.K m H d v → f d st = some o →
    wpAny (model X.prog X.w) X.A (matchPattern pt X.env u) (fun r s' => ∃ m' H', Inv X pins σ H' s' ∧ Ext m H m' H' ∧ RSt X.K m' H' st ∧ match o with
      | none => r = none
      | some ds => ∃ us vs, r = some (ns.zip us) ∧ ns.length = us.length ∧ Vals vs us ∧ RVs X.K m' H' ds vs) X.xe s
/-- patterns, side by side -/
def DPts (X : Cx) (pts : List Pattern) (ns : List Str) (f : List D → Store → Option (Option (List D))) : Prop :=
  ∀ (pins : List (Addr × Obj)) (s : Shared) (σ : L2.St) (H : Hp) (vs : List V) (us : List Value) (m : List Addr) (st : Store) (ds : List D) (o : Option (List D)), Inv X pins σ H s → Vals vs us → RSt X.K m H st → RVs X.K m H ds vs → ds.length = pts.length → f ds st = some o →
    wpAny (model X.prog X.w) X.A (matchEach pts X.env us) (fun r s' => ∃ m' H', Inv X pins σ H' s' ∧ Ext m H m' H' ∧ RSt X.K m' H' st ∧ match o with
      | none => r = none
      | some ds => ∃ us vs, r = some (ns.zip us) ∧ ns.length = us.length ∧ Vals vs us ∧ RVs X.K m' H' ds vs) X.xe s
def ptCap : PtF := fun d _ => some (some [d])
def ptVal (eq : D → D → Store → Option Bool) (c : D) : PtF := fun d st => match eq d c st with
  | some true => some (some [])
  | some false => some none
  | none => none
def ptsNil : List D → Store → Option (Option (List D)) := fun _ _ => some (some [])
def ptsCons (f : PtF) (g : List D → Store → Option (Option (List D))) : List D → Store → Option (Option (List D)) := fun ds st => match ds with
  | d :: ds => match f d st with
    | none => none
    | some none => some none
    | some (some a) => match g ds st with
      | none => none
      | some none => some none
      | some (some b) => some (some (a ++ b))
  | [] => none
def ptSeq (n : Nat) (g : List D → Store → Option (Option (List D))) : PtF := fun d st => match d with
  | .tup ds => if ds.length = n then g ds st else some none
  | _ => none
section
variable {cm : Str → Option Value} {W : WX} {X : Cx} {pos : Pos}
theorem dpt_cap {n : Str} : DPt X (.MatchAs none (some n) pos) [n] ptCap := by
  intro pins s σ H v u m st d o I r rs rv e
  cases e
  exact wpAny_matchPattern_Capture ⟨m, H, I, Ext.refl, rs, [u], [v], rfl, rfl, .cons r .nil, RVs.one rv⟩
def opB (eq : D → D → Store → Option Bool) : D → D → Store → Option (D × Store) := fun x y st => (eq x y st).map fun b => (.bl b, st)
theorem dpt_val {x : Str} {j : Nat} {p2 : Pos} {eq : D → D → Store → Option Bool} (he : OpS X (compareOp .Eq) (opB eq)) : DPt X (.MatchValue (.Constant (.str x) j p2) pos) [] (ptVal eq (.str x)) := by
  intro pins s σ H v u m st d o I r rs rv e
  refine wpAny_matchPattern_Value (thn ((pe_str (X := X)).run pins s σ H (fun y H' => y = .str x ∧ H = H') I ⟨rfl, rfl⟩) fun w s1 ⟨y, H1, I1, r1, ey, eH⟩ => ?_)
  subst ey; subst eH
  unfold ptVal at e
  cases q : eq d (.str x) st with
  | none => rw [q] at e; cases e
  | some b =>
    rw [q] at e
    refine thn (he pins s1 σ H v (.str x) u w (fun z H' => z = .bl b ∧ ∃ m', Ext m H m' H' ∧ RSt X.K m' H' st) I1 r r1 ⟨m, st, d, .str x, rs, rv, by simp [RV], ?_⟩) fun c s2 ⟨z, H2, I2, r2, ez, m2, x2, rs2⟩ => ?_
    · simp only [opB, q, Option.map_some]
      intro m' H' v' x' rs' r'
      exact ⟨by simpa [RV] using r', m', x', rs'⟩
    · subst ez
      cases r2
      refine PySem.wpAny_truthy_bool ?_
      cases b with
      | true => cases e; exact ⟨m2, H2, I2, x2, rs2, [], [], rfl, rfl, .nil, RVs.nil⟩
      | false => cases e; exact ⟨m2, H2, I2, x2, rs2, rfl⟩
theorem dpts_nil : DPts X [] [] ptsNil := by
  intro pins s σ H vs us m st ds o I r rs rv hl e
  cases e
  exact wpAny_matchEach_nil ⟨m, H, I, Ext.refl, rs, [], [], rfl, rfl, .nil, RVs.nil⟩
theorem dpts_cons {p : Pattern} {ps : List Pattern} {ns ns' : List Str} {f : PtF} {g : List D → Store → Option (Option (List D))} (h1 : DPt X p ns f) (h2 : DPts X ps ns' g) (hp : p.isStar = false := by rfl) : DPts X (p :: ps) (ns ++ ns') (ptsCons f g) := by
  intro pins s σ H vs us m st ds o I r rs rv hl e
  cases ds with
  | nil => cases e
  | cons d ds =>
    simp only [RVs] at rv
    obtain ⟨v, vr, rfl, rv1, rv2⟩ := rv
    cases r with
    | cons r1 r2 =>
      refine wpAny_matchEach_cons ?_ hp
      simp only [ptsCons] at e
      cases q : f d st with
      | none => rw [q] at e; cases e
      | some o1 =>
        rw [q] at e
        refine thn (h1 pins s σ H v _ m st d o1 I r1 rs rv1 q) fun b s1 ⟨m1, H1, I1, x1, rs1, z⟩ => ?_
        cases o1 with
        | none =>
          cases e
          subst z
          exact ⟨m1, H1, I1, x1, rs1, rfl⟩
        | some a =>
          obtain ⟨us1, vs1, rfl, hl1, r3, rv3⟩ := z
          dsimp only at e ⊢
          cases q2 : g ds st with
          | none => rw [q2] at e; cases e
          | some o2 =>
            rw [q2] at e
            refine thn (h2 pins s1 σ H1 vr _ m1 st ds o2 I1 r2 rs1 (RVs.ext rs x1 _ rv2) (by simpa using hl) q2) fun b s2 ⟨m2, H2, I2, x2, rs2, z⟩ => ?_
            cases o2 with
            | none =>
              cases e
              subst z
              exact ⟨m2, H2, I2, x1.trans rs1 x2, rs2, rfl⟩
            | some a2 =>
              cases e
              obtain ⟨us2, vs2, rfl, hl2, r4, rv4⟩ := z
              refine ⟨m2, H2, I2, x1.trans rs1 x2, rs2, us1 ++ us2, vs1 ++ vs2, ?_, by simp [hl1, hl2], r3.append r4, RVs.append (RVs.ext rs1 x2 _ rv3) rv4⟩
              show some (ns.zip us1 ++ ns'.zip us2) = some ((ns ++ ns').zip (us1 ++ us2))
              rw [List.zip_append hl1]
theorem dpt_seq {pts : List Pattern} {ns : List Str} {g : List D → Store → Option (Option (List D))} {n : Nat} (hc : X.calm = true) (h : DPts X pts ns g) (hn : pts.length = n := by rfl) (hstar : pts.findIdx? (·.isStar) = none := by rfl)
    (hwild : (pts.all fun p => p.isWildcard || (p.isStar && p.names.isEmpty)) = false := by rfl) : DPt X (.MatchSequence pts pos) ns (ptSeq n g) := by
  intro pins s σ H v u m st d o I r rs rv e
  cases d with
  | tup ds =>
    simp only [RV] at rv
    obtain ⟨a, vs, rfl, ha, rv⟩ := rv
    cases r
    obtain ⟨its, rl, pl, hz⟩ := I.tuple ha
    have hsz : (its.toArray.size : Int) < 2 ^ 63 := by
      have h1 := line63
      have h2 := rl.length
      rw [List.size_toArray]; omega
    have hlen : its.length = ds.length := by rw [← rl.length, rv.len]
    simp only [ptSeq] at e
    by_cases hk : ds.length = n
    · rw [if_pos hk] at e
      have I1 : Inv X pins σ H { s with toks := s.toks + 1 + 1 } := I.tok _
      refine PyProof.Rows.matchSeq_tuple_hit pl hsz (by rw [List.size_toArray, hlen, hk, hn]) ?_ hstar hwild
      rw [show pts.length = its.toArray.size by rw [List.size_toArray, hlen, hk, hn]]
      refine unpackItems_tuple (items := its.toArray) (I1.ok.hd hc) (by exact pl) (fun h' hx => ?_)
      have I2 : Inv X pins σ H { s with heap := h', toks := s.toks + 1 + 1 } := I.kept (t' := s.toks + 1 + 1) fun b o e => hx b o (Nat.ne_of_lt (Heap.lt_size e)) e
      exact h pins _ σ H vs its m st ds o I2 rl rs rv (by rw [hk, hn]) e
    · rw [if_neg hk] at e
      cases e
      exact PyProof.Rows.matchSeq_tuple_miss pl hsz (by rw [List.size_toArray, hlen, hn]; exact hk) ⟨m, H, I.tok _, Ext.refl, rs, rfl⟩ hstar hwild
  | _ => cases e
/-- the cases of a match -/
def DCs (cm : Str → Option Value) (W : WX) (X : Cx) (cs : List MatchCase) (c : D → SF) : Prop :=
  ∀ (pins : List (Addr × Obj)) (s : Shared) (σ : L2.St) (H : Hp) (v : V) (u : Value) (first : Bool) (m : List Addr) (p : Rho) (st : Store) (d : D) (D0 : Ends), Inv X pins σ H s → RelV v u → RSt X.K m H st → RV X.K m H d v → RE X.K m H p σ → PostS cm X.K W m H (c d p st) D0 →
    wpAny (model X.prog X.w) X.A (matchCases cs X.env u first) (SP X pins D0) X.xe s
end
def setAll (p : Rho) : List Nat → List D → Rho
  | i :: ix, d :: ds => setAll (p.set i (some d)) ix ds
  | _, _ => p
def mcNil : D → SF := fun _ => sNil
def mcCons (f : PtF) (ix : List Nat) (b : SF) (r : D → SF) : D → SF := fun d p st => match f d st with
  | none => .bad
  | some none => r d p st
  | some (some ds) => b (setAll p ix ds) st
def sMatch (a : EF) (c : D → SF) : SF := fun p st => bindS p (a p st) fun d st1 => c d p st1
inductive BN (X : Cx) : List Str → List Nat → Prop where
  | nil : BN X [] []
  | cons {n : Str} {i : Nat} {ns : List Str} {ix : List Nat} (hi : X.N[i]? = some n) (hx : Loc X.env.scope n) (hf : X.fn n = true ∨ X.env.scope.names.lookup n = some .local) (h : BN X ns ix) : BN X (n :: ns) (i :: ix)
section
variable {cm : Str → Option Value} {W : WX} {X : Cx} {pos : Pos}
theorem bn_cons {n : Str} (i : Nat) {ns : List Str} {ix : List Nat} (h : BN X ns ix) (hi : X.N[i]? = some n := by rfl) (hx : Loc X.env.scope n := by first | exact Or.inl rfl | exact Or.inr rfl) (hf : X.fn n = true ∨ X.env.scope.names.lookup n = some .local := by first | exact .inl rfl | exact .inr rfl) : BN X (n :: ns) (i :: ix) := .cons hi hx hf h
theorem bind_all (hN : X.N.Nodup) {pins : List (Addr × Obj)} {H : Hp} {m : List Addr} : ∀ {ns : List Str} {ix : List Nat} {us : List Value} {vs : List V} {ds : List D} {p : Rho} {σ : L2.St} {s : Shared}, BN X ns ix → ns.length = us.length → Vals vs us → RVs X.K m H ds vs → Inv X pins σ H s → RE X.K m H p σ →
    wpAny (model X.prog X.w) X.A (assignInOrder ((ns.zip us).map fun (n, _) => bindName X.env n) ((ns.zip us).map (·.2))) (fun _ s' => ∃ σ', Inv X pins σ' H s' ∧ RE X.K m H (setAll p ix ds) σ') X.xe s
  | _, _, us, vs, ds, p, σ, s, .nil, hl, r, rv, I, re => by
    cases us with
    | nil =>
      refine assignInOrder_nil ⟨σ, I, ?_⟩
      cases ds <;> exact re
    | cons _ _ => cases hl
  | _, _, us, vs, ds, p, σ, s, .cons (n := n) (i := i) (ns := ns) (ix := ix) hi hx hf h, hl, r, rv, I, re => by
    cases us with
    | nil => cases hl
    | cons u us =>
      cases r with
      | cons r0 r1 =>
        cases ds with
        | nil => simp only [RVs] at rv; cases rv
        | cons d ds =>
          simp only [RVs] at rv
          obtain ⟨v, vr, e, rv0, rv1⟩ := rv
          cases e
          show wpAny _ _ (assignInOrder (bindName X.env n :: (ns.zip us).map fun (n, _) => bindName X.env n) (u :: (ns.zip us).map (·.2))) _ _ _
          refine assignInOrder_cons (wpAny_bindName (store_ok I hN hi hx r0 (fun s' I' => ?_) hf))
          exact bind_all (ix := ix) (p := p.set i (some d)) hN h (by simpa using hl) r1 rv1 I' (re.set (by rw [I.len]; exact (List.getElem?_eq_some_iff.mp hi).1) rv0)
theorem dcs_nil : DCs cm W X [] mcNil := by
  intro pins s σ H v u first m p st d D0 I r rs rv re h
  exact wpAny_matchCases_nil ⟨σ, H, I, h m H σ Ext.refl rs re⟩
theorem dcs_cons {pt : Pattern} {body : List Stmt} {rest : List MatchCase} {ns : List Str} {ix : List Nat} {f : PtF} {fb : SF} {fr : D → SF} (hN : X.N.Nodup) (hp : DPt X pt ns f) (hn : BN X ns ix) (hb : DSs cm W X body fb) (hr : DCs cm W X rest fr) : DCs cm W X (⟨pt, none, body⟩ :: rest) (mcCons f ix fb fr) := by
  intro pins s σ H v u first m p st d D0 I r rs rv re h
  unfold mcCons at h
  cases q : f d st with
  | none => rw [q] at h; exact h.elim
  | some o =>
    rw [q] at h
    refine wpAny_matchCases_cons (thn (hp pins s σ H v u m st d o I r rs rv q) fun b s1 ⟨m1, H1, I1, x1, rs1, z⟩ => ?_)
    cases o with
    | none =>
      subst z
      exact hr pins s1 σ H1 v u false m1 p st d D0 I1 r rs1 (RV.ext rs x1 _ rv) (re.ext rs x1) (PostS.at h x1 rs1)
    | some ds =>
      obtain ⟨us, vs, rfl, hl, r2, rv2⟩ := z
      refine thn (bind_all hN hn hl r2 rv2 I1 (re.ext rs x1)) fun _ s2 ⟨σ2, I2, re2⟩ => ?_
      exact hb.run pins s2 σ2 H1 D0 I2 ⟨m1, setAll p ix ds, st, re2, rs1, PostS.at h x1 rs1⟩
theorem ds_match {e : Expr} {cs : List MatchCase} {fa : EF} {c : D → SF} (he : DE cm W X e fa) (hc : DCs cm W X cs c) : DS cm W X (.Match e cs pos) (sMatch fa c) := by
  refine ⟨fun pins s σ H D0 I h => ?_⟩
  obtain ⟨m, p, st, re, rs, h⟩ := h
  refine wpAny_Match (thn (he.run pins s σ H (fun v H1 => ∃ m1 st1 d, RSt X.K m1 H1 st1 ∧ RV X.K m1 H1 d v ∧ RE X.K m1 H1 p σ ∧ PostS cm X.K W m1 H1 (c d p st1) D0) I ⟨m, p, st, re, rs, PostS.split re rs h fun d st1 m1 H1 v e1 x1 rs1 r1 h1 => ⟨m1, st1, d, rs1, r1, re.ext rs x1, h1⟩⟩) fun u s1 ⟨v, H1, I1, r1, m1, st1, d, rs1, rv, re1, q⟩ => ?_)
  exact hc pins s1 σ H1 v u true m1 p st1 d D0 I1 r1 rs1 rv re1 q
end

/-! ### defs: the rule, the law -/
def runD (n : Nat) (body : SF) : FnF := fun ds st => match body (ds.map some ++ List.replicate (n - ds.length) none) st with
  | .rt d st' => .ok d st'
  | .nx _ st' => .ok .non st'
  | .xc e _ st' => .exc e st'
  | _ => .bad
/-- where sys.modules stands -/
def HasSys (base : Heap) : Prop := ∃ o es n, base.get? sysModules = some o ∧ o.data = .dict es n
/-- what a body's derivation may lean on -/
structure BX (W : WX) (k : Nat) (X : Cx) : Prop where
  tk : Takes X W
  po : PassesOwn (model X.prog X.w) X.A X.env X.xe
  calm : X.calm = true
  nd : X.N.Nodup
  hr : Room k X.A
  gd : X.A.guards = some []
  sys : HasSys X.base
theorem BX.hu {W : WX} {k : Nat} {X : Cx} (b : BX W k X) : X.A.units + 1 < cLine := hu_of b.hr
theorem BX.h160 {W : WX} {k : Nat} {X : Cx} (b : BX W k X) : X.A.units + 160 < cLine := by have := b.hr.un; omega
theorem BX.h64 {W : WX} {k : Nat} {X : Cx} (b : BX W k X) : X.A.units + 64 < cLine := b.hr.units
section
variable {cm : Str → Option Value} {P : Program} {w : World} {K : PySem.W.Frag} {mg : Str → Option Value} {base : Heap}
theorem re_start {m : List Addr} {H : Hp} {N : List Str} {ds : List D} {vs : List V} (r : RVs K m H ds vs) : RE K m H (ds.map some ++ List.replicate (N.length - ds.length) none) (L2.start N vs) := fun i d e => by
  by_cases hi : i < ds.length
  · rw [List.getElem?_append_left (by simpa using hi), List.getElem?_map] at e
    obtain ⟨d', e1, e2⟩ := Option.map_eq_some_iff.mp e
    cases e2
    obtain ⟨v, e3, e4⟩ := r.get e1
    refine ⟨v, ?_, e4⟩
    unfold L2.start
    rw [List.getElem?_append_left (by simp only [List.length_map]; rw [← r.len]; exact hi), List.getElem?_map, e3]
    rfl
  · exfalso
    rw [List.getElem?_append_right (by simpa using hi)] at e
    have := List.mem_of_getElem? e
    rw [List.mem_replicate] at this
    cases this.2
/-- a def of the text by its body's derivation -/
theorem fnD_of {x qual : Str} {st : Stmt} {f : Addr} {fd : FuncData} {N ps : List Str} {k : Nat} {body : SF} (F : Fun K x qual st f fd) (S : FnScope N ps (defScope st)) (hm : mg x = some (.ref f)) (bd : Binds K fd ps []) (hs : HasSys base)
    (hbody : ∀ (cdv : Value) (A : Around) (outer : List Env) (s : Shared) (H : Hp) (E : XK), BX (fun c d _ H' => E c d H') k (cxOf (L2.CX P w) P w K mg base N qual (defScope st) f cdv A outer s H E) →
      DSs cm (fun c d _ H' => E c d H') (cxOf (L2.CX P w) P w K mg base N qual (defScope st) f cdv A outer s H E) (defBody st) body) : FnD cm P w K mg base (k + 1) x ps f fd (runD N.length body) := by
  obtain ⟨oc, od, kV, doc, pm, an, cdv, ct, osl, hfd, lk, hcd⟩ := F.ex
  refine ⟨⟨fun vs H Q E h => h.1, fun A outer s H args us vs Q E hg hr e0 hb r h => ?_⟩, hm, F.kp, bd⟩
  subst hfd
  have inS : ∀ b o, base.get? b = some o → s.heap.get? b = some o := fun b o e => (e0.bs b o e).1
  have KX := e0.mod.kin.keeps inS
  have places : ∀ q ∈ ps.zip us, (defScope st).names.lookup q.1 = some .local ∨ ((defScope st).names.lookup q.1 = some .cell ∧ ((cellsFrom (s.heap.objs.size + 1) (defScope st).names []).lookup q.1).isSome = true) := by
    rintro ⟨y, _⟩ hq
    rcases S.par y (List.of_mem_zip hq).1 with z | z
    · exact .inl z
    · exact .inr ⟨z, PySem.W.cellsFrom_some _ _ _ (.inl z)⟩
  refine codeAny_call_function hr.depth (KX _ _ lk) rfl S.co S.gen rfl (PySem.W.codeRec_of KX hcd) (hb _ _ _ _ (wpAny_newFunctionEnv_cells S.kind places fun env he s1 x => ?_))
  subst he
  refine ⟨(e0.mod.nolimit.keeps inS).keeps x.toInCall.keep, codeAny_func ?_⟩
  obtain ⟨hn, m, st0, ds, rs, rv, h⟩ := h
  have hD := hbody cdv A outer s H E ⟨takes_of rfl rfl rfl rfl, passes_of rfl, rfl, S.nd, hr.deeper _, hg, hs⟩
  have I := inv_start (CX := L2.CX P w) (N := N) (qual := qual) (scope := defScope st) (f := f) (cd := cdv) (E := E) S hr.hd e0 hn r x
  refine wpAny_mono (hD.run [] s1 (L2.start N vs) H { nx := fun _ H' => Q .non H', rt := Q } I ⟨m, _, st0, re_start rv, rs, ?_⟩) (fun fl s' hs => ?_) fun e s' hs => hs
  · unfold runD at h
    cases q : body (ds.map some ++ List.replicate (N.length - ds.length) none) st0 with
    | rt d st1 => rw [q] at h; exact h
    | nx p st1 => rw [q] at h; exact fun m' H' s' e rs' re' => h m' H' .non e rs' (by simp [RV])
    | xc e p st1 => rw [q] at h; exact fun m' H' s' c dd e' rs' re' rx => h m' H' c dd e' rs' rx
    | bk p st1 => rw [q] at h; exact h.elim
    | ct p st1 => rw [q] at h; exact h.elim
    | bad => rw [q] at h; exact h.elim
  · match fl, hs with
    | .ret u, ⟨v, σ', H', J, rv, q⟩ => exact ⟨v, H', J.os, J.bare, J.base, J.hok, rv, q⟩
    | .next, ⟨σ', H', J, q⟩ => exact ⟨.non, H', J.os, J.bare, J.base, J.hok, rfl, q⟩
    | .brk, ⟨_, _, _, q⟩ => exact q.elim
    | .cont, ⟨_, _, _, q⟩ => exact q.elim
/-- the law's promise from what its mirror is worth -/
theorem law_sp {F : FnF} (hF : ∀ ns : List Int, ns.length ≤ 63 → ∃ st, F [.scr ns] [] = .ok (.bl true) st) (H : Hp) (a : Addr) (ns : List Int) (hl : ns.length ≤ 63) (ho : Only H) (hq : SqL K H a (ns.map V.int)) : spD cm K 1 F [.ref a] H (fun v _ => v = .bl true) fun _ _ _ => False := by
  have fz : FzL K H a (ns.map V.int) := by
    rcases hq with (h | ⟨o, h⟩) | h
    · rcases ho a with e | ⟨o, xs, e⟩ <;> (rw [h] at e; cases e)
    · exact .inl ⟨o, h⟩
    · exact .inr h
  obtain ⟨st, e⟩ := hF ns hl
  refine ⟨rfl, [], [], [.scr ns], ⟨rfl, List.nodup_nil, fun l a o h => by simp at h⟩, RVs.one (by simp only [RV]; exact ⟨a, rfl, fz⟩), ?_⟩
  rw [e]
  exact fun m' H' v _ _ r => by simpa [RV] using r
/-- THE LAW from its def's promise, at the heap behind the top -/
theorem law_runG {mb : Str → Option Value} {k : Nat} {fa a : Addr} {fd : FuncData} {x : Str} {F : FnF} {s1 : Shared} {vs : List Value} {ns : List Int} (KX : K.In s1.heap) (hns : s1.heap.Ns mainGlobals mg) (hb : s1.heap.Ns builtinsNs mb) (hbb : ∀ x : Str, x ≠ "__name__" → mb x = bootBuiltins x)
    (hlim : s1.heap.NoLimit) (hsy : HasSys s1.heap) (hg : s1.gens = #[]) (ha : s1.heap.get? a = some { cls := .type "list", data := .seq vs.toArray }) (hi : PyProof.Rows.IntsAre vs ns) (hl : ns.length ≤ 63) (hr : Room k callerA) (hbind : ∀ (s : Shared) (u : Value), BindsTo s fd ⟨[u], []⟩ [(x, u)])
    (hG : ∀ base : Heap, K.In base → base.Ns mainGlobals mg → HasSys base → FnG P w K mg base k fa fd [x] (spD cm K 1 F)) (hF : ∀ ns : List Int, ns.length ≤ 63 → ∃ st, F [.scr ns] [] = .ok (.bl true) st) :
    codeAny (model P w) callerA (.call (.ref fa) ⟨[.ref a], []⟩) (fun r s' => r = .ok (.ret (.bool true)) ∧ OldK s1.heap s'.heap ∧ s'.os = s1.os ∧ AllBare s'.gens) s1 := by
  let u0 : HO := .frz { cls := .type "list", data := .seq vs.toArray } (.lst (ns.map V.int))
  let H : Hp := fun b => if K.lookup a = none ∧ b = a then some u0 else none
  have rvs : Vals (ns.map V.int) vs := vals_of_ints hi
  have hlen : ns.length ≤ sizeLine := by rw [lim_eq]; exact Nat.le_trans hl (by decide)
  have hH : ∀ b o, H b = some o → K.lookup a = none ∧ b = a ∧ o = u0 := fun b o e => by
    by_cases q : K.lookup a = none ∧ b = a
    · have : H b = some u0 := if_pos q
      rw [this] at e; cases e
      exact ⟨q.1, q.2, rfl⟩
    · have : H b = none := if_neg q
      rw [this] at e; cases e
  have hO : Only H := fun b => by
    cases q : H b with
    | none => exact .inl rfl
    | some o => obtain ⟨_, _, rfl⟩ := hH b o q; exact .inr ⟨_, _, rfl⟩
  have hok : HOk P w H s1.heap := fun b o e => by
    obtain ⟨_, rfl, rfl⟩ := hH b o e
    exact ⟨ha, by rw [List.length_map]; exact hlen, vs, _, rvs, ha⟩
  have hS : SqL K H a (ns.map V.int) := by
    cases hk : K.lookup a with
    | none => exact .inl (.inr ⟨_, if_pos ⟨hk, rfl⟩⟩)
    | some o =>
      have e := KX a o hk
      rw [ha] at e; cases e
      exact .inr ⟨_, vs.toArray, _, hk, rfl, rfl, rfl, by rw [List.size_toArray, ← rvs.length, List.length_map]; exact hlen, by simpa using rvs⟩
  have free : ∀ {b : Addr} {o : Obj}, s1.heap.get? b = some o → (∀ n, o.data ≠ .seq vs.toArray n) → H b = none := fun {b o} e d => by
    cases q : H b with
    | none => rfl
    | some u =>
      obtain ⟨_, rfl, _⟩ := hH b u q
      rw [ha] at e; cases e
      exact absurd rfl (d _)
  have ns' : ∀ {b : Addr} {f : Str → Option Value}, s1.heap.Ns b f → (hidT s1.heap H).Ns b f := fun {b f} ⟨o, es, ep, e, d, r⟩ => ⟨o, es, ep, hidT_get e (free e fun n z => by rw [d] at z; cases z), d, r⟩
  have kb : K.In (hidT s1.heap H) := fun b o e => hidT_get (KX b o e) (by
    cases q : H b with
    | none => rfl
    | some u =>
      obtain ⟨z, rfl, _⟩ := hH b u q
      rw [z] at e; cases e)
  have hM : Mod K mg (hidT s1.heap H) := ⟨kb, ns' hns, ⟨mb, ns' hb, hbb⟩, let ⟨mc, h1, h2⟩ := hlim; ⟨mc, ns' h1, h2⟩⟩
  have e0 : Env0 P w K mg (hidT s1.heap H) callerA [] s1 H := ⟨rfl, hM, fun b o e => of_hidT e, Nat.le_of_eq (hidT_size _ _), trivial, fun b hb => (List.not_mem_nil hb).elim, hok, .of_eq hg⟩
  have hsx : HasSys (hidT s1.heap H) := by
    obtain ⟨o, es, n, e, d⟩ := hsy
    exact ⟨o, es, n, hidT_get e (free e fun n z => by rw [d] at z; cases z), d⟩
  refine codeAny_mono ((hG _ kb (ns' hns) hsx).go callerA [] s1 H ⟨[.ref a], []⟩ [.ref a] [.ref a] _ _ rfl hr e0 (hbind s1 (.ref a)) (.cons rfl .nil) (law_sp hF H a ns hl hO hS)) fun r s' h => ?_
  match r, h with
  | .error e, h =>
    obtain ⟨_, _, _, _, _, _, _, _, _, _, _, _, z⟩ := h
    exact z.elim
  | .ok (.ret u), ⟨v, H', os, bare, un, hok', r', q⟩ =>
    have q : v = .bl true := q
    subst q
    obtain rfl : u = Value.bool true := r'
    refine ⟨rfl, OldK.of_keep fun b o e => ?_, os, bare⟩
    cases q : H b with
    | none => exact un.keep b o e q (fun z => (List.not_mem_nil z).elim) (fun z => (List.not_mem_nil z).elim)
    | some u =>
      obtain ⟨_, _, rfl⟩ := hH b u q
      obtain ⟨e2, _⟩ := hok' b _ (un.frzs b _ _ q)
      obtain ⟨e1, _⟩ := hok b _ q
      rw [e] at e1; cases e1
      exact e2
end
theorem walkG {l : PySem.W.OpenLaw} {k : Nat} {q : Program} {loose : List Str} {XP : (Str → Option Value) → Heap → Prop} {YP : World → Heap → Prop} {d : DefRec} {K : Params → PySem.W.Frag} {x : Str} (hn : l.most = some 63) (hdf : d.params.defaults = []) (hr : Room k callerA) (hq : importsNone q = true)
    (hY : ∀ (w : World) (h : Heap), YP w h → (K w.params).In h)
    (F : ∀ (w : World) (mg : Str → Option Value) (fa : Addr) (h : Heap), (K w.params).In h → h.Ns mainGlobals mg → mg d.name = some (.ref fa) →
      ∃ (cm : Str → Option Value) (fd : FuncData) (Fl : FnF), (∀ (s : Shared) (u : Value), BindsTo s fd ⟨[u], []⟩ [(x, u)]) ∧ (∀ base : Heap, (K w.params).In base → base.Ns mainGlobals mg → HasSys base → FnG l.prog w (K w.params) mg base k fa fd [x] (spD cm (K w.params) 1 Fl)) ∧
        ∀ ns : List Int, ns.length ≤ 63 → ∃ st, Fl [.scr ns] [] = .ok (.bl true) st) :
    PySem.W.WalkO q loose XP YP l.row.toRowW d [] (fun f vs => PySem.call f vs) := by
  refine Att.attach_call hn hdf fun w s0 s1 mg mb fa o pm cd doc a vs ns G Y ho hd hcd hmg hobj hints hlen hg => ?_
  have KX := hY w _ Y
  obtain ⟨cm, fd, Fl, hb, hG, hF⟩ := F w mg fa _ KX G.T.g hmg
  have hsy : HasSys s1.heap := by
    obtain ⟨mm, ⟨o, es, ep, e1, e2, _⟩, _⟩ := (G.T.seer hq).mods
    exact ⟨o, es, ep, e1, e2⟩
  exact law_runG KX G.T.g G.T.b G.T.builtins G.T.nolimit hsy hg hobj hints hlen hr hb hG hF
end Mi
set_option Elab.async false
set_option linter.all false
set_option maxRecDepth 100000
set_option maxHeartbeats 4000000
/-! Mi6: equality. -/
namespace Mi
open PySem PySem.Spec L2
open PyProof.Rows hiding St
open AutoSeq1 (wpAny_loadPart')
open MeetsSeq SeqAt

/-! ### a dict beside a text -/
theorem dict_eq_declines_str (l : Addr) (o : Obj) (hc : o.cls = .type "dict") (b : Str) (u : Tok) :
    Meets (Builtin.«dict.__eq__» ⟨[.ref l, .str b u], []⟩) (fun _ R s => s.heap.get? l = some o ∧ R (.ok (.ret .notImplemented)) s) :=
  .of_wp fun prog w A R s h => by obtain ⟨hp, g, d, tk, os⟩ := s; obtain ⟨hl, h⟩ := h; have f1 := F.sub_str_dict; wp_walk using wpAny_loadPart' hl; exact ⟨_, rfl, h⟩
theorem str_eq_declines_obj (b : Str) (u : Tok) (l : Addr) (c : Value) (dd : Option Addr) (es : Array DictEntry) (ep : Nat) (sl : Array (Option Value)) :
    Meets (Builtin.«str.__eq__» ⟨[.str b u, .ref l], []⟩) (fun _ R s => s.heap.get? l = some { cls := c, dict := dd, data := .dict es ep, slots := sl } ∧ R (.ok (.ret .notImplemented)) s) :=
  .of_wp fun prog w A R s h => by obtain ⟨hp, g, d, tk, os⟩ := s; obtain ⟨hl, h⟩ := h; wp_walk using wpAny_loadPart' hl, wpAny_load hl; exact ⟨_, rfl, h⟩
section
variable {A : Around} {s : Shared}
theorem rc_dict_str {l : Addr} {o : Obj} {es : Array DictEntry} {ep : Nat} (ho : s.heap.get? l = some o) (hc : o.cls = .type "dict") (hd : o.data = .dict es ep) (b : Str) (u : Tok) (hu : A.units < cLine) : RcAt A s (.ref l) (.str b u) false := fun prog w E Q h => by
  obtain ⟨cls, dd, data, sl⟩ := o
  simp only at hc hd
  subst hc hd
  exact rc_eq_decline_or (k := false) ⟨_, ho, rfl⟩ (typeIs_str s b u) (by decide) F.sub_str_dict F.slot_dict_eq F.slot_str_eq_refl
    (fun _ hq => call_meets F.slot_dict_eq ⟨_, ho, rfl⟩ F.entry_dict_eq (F.args_dict_eq_2 _ _) (dict_eq_declines_str l _ rfl b u) ⟨ho, hq⟩)
    (fun _ hq => call_meets F.slot_str_eq_refl (typeIs_str s b u) F.entry_str_eq (F.args_str_eq_2 _ _) (str_eq_declines_obj b u l _ dd es ep sl) ⟨ho, hq⟩)
    (fun _ hq => wpAny_of_eq (rfl : isSame (.ref l) (.str b u) = pure false) hq) (.inr hu) h
theorem rc_str_dict {l : Addr} {o : Obj} {es : Array DictEntry} {ep : Nat} (ho : s.heap.get? l = some o) (hc : o.cls = .type "dict") (hd : o.data = .dict es ep) (b : Str) (u : Tok) (hu : A.units < cLine) : RcAt A s (.str b u) (.ref l) false := fun prog w E Q h => by
  obtain ⟨cls, dd, data, sl⟩ := o
  simp only at hc hd
  subst hc hd
  exact rc_eq_decline_or (k := false) (typeIs_str s b u) ⟨_, ho, rfl⟩ (by decide) F.sub_dict_str F.slot_str_eq F.slot_dict_eq_refl
    (fun _ hq => call_meets F.slot_str_eq (typeIs_str s b u) F.entry_str_eq (F.args_str_eq_2 _ _) (str_eq_declines_obj b u l _ dd es ep sl) ⟨ho, hq⟩)
    (fun _ hq => call_meets F.slot_dict_eq_refl ⟨_, ho, rfl⟩ F.entry_dict_eq (F.args_dict_eq_2 _ _) (dict_eq_declines_str l _ rfl b u) ⟨ho, hq⟩)
    (fun _ hq => wpAny_of_eq (rfl : isSame (.str b u) (.ref l) = pure false) hq) (.inr hu) h
theorem eq_dict_str {l : Addr} {o : Obj} {es : Array DictEntry} {ep : Nat} (ho : s.heap.get? l = some o) (hc : o.cls = .type "dict") (hd : o.data = .dict es ep) (b : Str) (u : Tok) (hu : A.units < cLine) : EqAt A s (.ref l) (.str b u) false := fun prog w E Q h => by
  unfold eqBool
  refine wpAny_holding ?_
  refine wpAny_ite_split (fun hab => absurd (eq_of_beq hab) nofun) (fun _ => ?_)
  exact wpAny_bind (rc_dict_str ho hc hd b u hu prog w E _ (PySem.wpAny_truthy_bool h))
theorem eq_str_dict {l : Addr} {o : Obj} {es : Array DictEntry} {ep : Nat} (ho : s.heap.get? l = some o) (hc : o.cls = .type "dict") (hd : o.data = .dict es ep) (b : Str) (u : Tok) (hu : A.units < cLine) : EqAt A s (.str b u) (.ref l) false := fun prog w E Q h => by
  unfold eqBool
  refine wpAny_holding ?_
  refine wpAny_ite_split (fun hab => absurd (eq_of_beq hab) nofun) (fun _ => ?_)
  exact wpAny_bind (rc_str_dict ho hc hd b u hu prog w E _ (PySem.wpAny_truthy_bool h))
end

/-! ### == of plain data -/
def eqZ (f : D → D → Option Bool) : List D → List D → Option Bool
  | x :: xs, y :: ys => match f x y, eqZ f xs ys with
    | some b, some c => some (b && c)
    | _, _ => none
  | _, _ => some true
def eqN : Nat → Store → D → D → Option Bool
  | 0, _, _, _ => none
  | n + 1, st, x, y => match x with
    | .non => (match y with
      | .non => some true
      | .bl _ | .int _ | .str _ | .tup _ => some false
      | .ref m => (match st[m]? with | some (.lst _) => some false | _ => none)
      | _ => none)
    | .bl a => (match y with
      | .bl b => some (a == b)
      | .int b => some ((if a then 1 else 0) == b)
      | .non | .str _ | .tup _ => some false
      | .ref m => (match st[m]? with | some (.lst _) => some false | _ => none)
      | _ => none)
    | .int a => (match y with
      | .int b => some (a == b)
      | .bl b => some (a == (if b then 1 else 0))
      | .non | .str _ | .tup _ => some false
      | .ref m => (match st[m]? with | some (.lst _) => some false | _ => none)
      | _ => none)
    | .str a => (match y with
      | .str b => some (a == b)
      | .non | .bl _ | .int _ | .tup _ => some false
      | .ref m => (match st[m]? with | some (.lst _) => some false | some (.dic _) => some false | _ => none)
      | _ => none)
    | .tup xs => (match y with
      | .tup ys => (eqZ (eqN n st) xs ys).map fun b => b && xs.length == ys.length
      | .non | .bl _ | .int _ | .str _ => some false
      | .ref m => (match st[m]? with | some (.lst _) => some false | _ => none)
      | _ => none)
    | .ref l => (match st[l]? with
      | some (.lst xs) => (match y with
        | .ref m => (match st[m]? with
          | some (.lst ys) => if xs.length = ys.length then eqZ (eqN n st) xs ys else some false
          | _ => none)
        | .non | .bl _ | .int _ | .str _ | .tup _ => some false
        | _ => none)
      | some (.dic _) => (match y with
        | .str _ => some false
        | _ => none)
      | _ => none)
    | .scr _ => none
    | .exn .. => none
/-- two descriptions of one value are equal -/
theorem eqZ_same {f : D → D → Option Bool} {xs ys : List D} {b : Bool} (hl : xs.length = ys.length) (h : ∀ (i : Nat) (x y : D) (b : Bool), xs[i]? = some x → ys[i]? = some y → f x y = some b → b = true) (e : eqZ f xs ys = some b) : b = true := by
  induction xs generalizing ys b with
  | nil => cases ys <;> (simp only [eqZ] at e; cases e; rfl)
  | cons x xs ih =>
    cases ys with
    | nil => cases hl
    | cons y ys =>
      simp only [eqZ] at e
      split at e
      · rename_i b1 b2 e1 e2
        cases e
        rw [h 0 x y b1 rfl rfl e1, ih (by simpa using hl) (fun i x y b h1 h2 => h (i + 1) x y b (by simpa using h1) (by simpa using h2)) e2]
        rfl
      · cases e
theorem eqZ_get {f : D → D → Option Bool} : ∀ {xs ys : List D} {b : Bool}, eqZ f xs ys = some b → ∃ g : Nat → Bool, (∀ (i : Nat) (x y : D), xs[i]? = some x → ys[i]? = some y → f x y = some (g i)) ∧ b = (List.range (min xs.length ys.length)).all g
  | [], ys, b, e => by
    refine ⟨fun _ => true, fun i x y h => by simp at h, ?_⟩
    simp only [eqZ] at e; cases e; simp
  | x :: xs, [], b, e => by
    refine ⟨fun _ => true, fun i x y h h' => by simp at h', ?_⟩
    simp only [eqZ] at e; cases e; simp
  | x :: xs, y :: ys, b, e => by
    simp only [eqZ] at e
    split at e
    · rename_i b1 b2 e1 e2
      cases e
      obtain ⟨g, hg, hb⟩ := eqZ_get e2
      refine ⟨fun i => match i with | 0 => b1 | i + 1 => g i, fun i x' y' h1 h2 => ?_, ?_⟩
      · cases i with
        | zero => simp at h1 h2; subst h1; subst h2; exact e1
        | succ i => exact hg i x' y' (by simpa using h1) (by simpa using h2)
      · rw [hb]
        simp only [List.length_cons, Nat.succ_min_succ, List.range_succ_eq_map, List.all_cons, List.all_map]
        rfl
    · cases e
/-- a plain value as it stands in the model's heap -/
inductive KD (X : Cx) (m : List Addr) (st : Store) (H : Hp) (s : Shared) : D → Value → Prop where
  | non : KD X m st H s .non .none
  | bl (b : Bool) : KD X m st H s (.bl b) (.bool b)
  | int (i : Int) (t : Tok) : KD X m st H s (.int i) (.int i t)
  | str (x : Str) (t : Tok) : KD X m st H s (.str x) (.str x t)
  | tup {ds : List D} {a : Addr} {vs : List V} {its : List Value} (h : s.heap.IsTuple a its.toArray) (hq : SqT X.K H a vs) (r : RVs X.K m H ds vs) (rv : Vals vs its) : KD X m st H s (.tup ds) (.ref a)
  | lst {l : Nat} {ds : List D} {a : Addr} {vs : List V} {its : List Value} (hl : m[l]? = some a) (hs : st[l]? = some (.lst ds)) (h : s.heap.IsList a its.toArray) (hq : H a = some (.lst vs)) (r : RVs X.K m H ds vs) (rv : Vals vs its) : KD X m st H s (.ref l) (.ref a)
  | dic {l : Nat} {kvs : List (Key × D)} {a : Addr} {o : Obj} {es : Array DictEntry} {ep : Nat} (hl : m[l]? = some a) (hs : st[l]? = some (.dic kvs)) (h : s.heap.get? a = some o) (hc : o.cls = .type "dict") (hd : o.data = .dict es ep) : KD X m st H s (.ref l) (.ref a)
  | err {l : Nat} {cls : Str} {fs : List (Str × D)} {a : Addr} (hs : st[l]? = some (.err cls fs)) : KD X m st H s (.ref l) (.ref a)
  | scr (ns : List Int) (u : Value) : KD X m st H s (.scr ns) u
  | exn (a dd : Addr) (ks : List Str) (xs : List D) (u : Value) : KD X m st H s (.exn a dd ks xs) u
section
variable {X : Cx} {pins : List (Addr × Obj)} {σ : L2.St} {H : Hp} {s : Shared} {m : List Addr} {st : Store}
theorem kd_of (I : Inv X pins σ H s) (rs : RSt X.K m H st) : ∀ {d : D} {v : V} {u : Value}, RV X.K m H d v → RelV v u → KD X m st H s d u
  | .non, v, u, h, r => by simp only [RV] at h; subst h; cases r; exact .non
  | .bl b, v, u, h, r => by simp only [RV] at h; subst h; cases r; exact .bl b
  | .int i, v, u, h, r => by simp only [RV] at h; subst h; obtain ⟨t, rfl⟩ := r; exact .int i t
  | .str x, v, u, h, r => by simp only [RV] at h; subst h; obtain ⟨t, rfl⟩ := r; exact .str x t
  | .scr ns, v, u, h, r => .scr ns u
  | .exn a dd ks xs, v, u, h, r => .exn a dd ks xs u
  | .tup ds, v, u, h, r => by
    simp only [RV] at h
    obtain ⟨a, vs, rfl, hq, h⟩ := h
    cases r
    obtain ⟨its, rl, pl, hz⟩ := I.tuple hq
    exact .tup pl hq h rl
  | .ref l, v, u, h, r => by
    simp only [RV] at h
    obtain ⟨a, rfl, hl⟩ := h
    cases r
    obtain ⟨o, ho⟩ := rs.lt hl
    cases o with
    | lst ds =>
      obtain ⟨vs, h1, h2⟩ := rs.lst hl ho
      obtain ⟨its, rl, pl, hz⟩ := I.list (SqL.of h1)
      exact .lst hl ho pl.isList h1 h2 rl
    | dic kvs =>
      obtain ⟨ws, h1, h2⟩ := rs.dic hl ho
      obtain ⟨_, _, vs, _, ob, es, ep, e1, e2, e3, _⟩ := dk_of I.hok h1
      exact .dic hl ho e1 e2.1 e3
    | err cls fs => exact .err ho
theorem tup_inj (I : Inv X pins σ H s) {a : Addr} {xs ys : List V} (h : SqT X.K H a xs) (h' : SqT X.K H a ys) : xs = ys := I.tuple_inj h h'
theorem not_both (I : Inv X pins σ H s) {a : Addr} {its its2 : List Value} (h : s.heap.IsTuple a its.toArray) (h' : s.heap.IsList a its2.toArray) : False := by
  obtain ⟨o, e, c, _⟩ := h
  obtain ⟨o', e', c', _⟩ := h'
  rw [e] at e'; cases e'
  rw [c] at c'; exact absurd c' (by simp)
/-- one value, described twice: equal -/
theorem eqN_true (I : Inv X pins σ H s) (rs : RSt X.K m H st) : ∀ (n : Nat) {x y : D} {v : V} {u : Value} {b : Bool}, RV X.K m H x v → RV X.K m H y v → RelV v u → eqN n st x y = some b → b = true
  | 0, _, _, _, _, _, _, _, _, e => by cases e
  | n + 1, x, y, v, u, b, hx, hy, r, e => by
    have kx := kd_of I rs hx r
    have ky := kd_of I rs hy r
    cases kx with
    | non => cases ky with
      | non => simp only [eqN] at e; cases e; rfl
      | scr => simp only [eqN] at e; cases e
      | exn => simp only [eqN] at e; cases e
    | bl a => cases ky with
      | bl => simp only [eqN] at e; cases e; simp
      | scr => simp only [eqN] at e; cases e
      | exn => simp only [eqN] at e; cases e
    | int i t => cases ky with
      | int => simp only [eqN] at e; cases e; simp
      | scr => simp only [eqN] at e; cases e
      | exn => simp only [eqN] at e; cases e
    | str z t => cases ky with
      | str => simp only [eqN] at e; cases e; simp
      | scr => simp only [eqN] at e; cases e
      | exn => simp only [eqN] at e; cases e
    | scr ns => simp only [eqN] at e; cases e
    | err hs => simp only [eqN, hs] at e; cases e
    | exn => simp only [eqN] at e; cases e
    | tup h hq rv rl => cases ky with
      | tup h' hq' rv' rl' =>
        simp only [eqN] at e
        obtain ⟨c, e1, rfl⟩ := Option.map_eq_some_iff.mp e
        have := tup_inj I hq hq'
        subst this
        have hl := rv.len.trans rv'.len.symm
        have : c = true := eqZ_same hl (fun i x y b h1 h2 e => by
          obtain ⟨v1, q1, q2⟩ := rv.get h1
          obtain ⟨v2, q3, q4⟩ := rv'.get h2
          rw [q1] at q3; cases q3
          obtain ⟨u1, _, q5⟩ := rl.get q1
          exact eqN_true I rs n q2 q4 q5 e) e1
        subst this
        simp [hl]
      | lst hl hs h' hq' rv' rl' => exact (not_both I h h').elim
      | dic hl hs h' hc hd =>
        obtain ⟨o, e', c, _⟩ := h
        rw [e'] at h'; cases h'
        rw [c] at hc; exact absurd hc (by simp)
      | err hs => simp only [eqN, hs] at e; cases e
      | scr => simp only [eqN] at e; cases e
      | exn => simp only [eqN] at e; cases e
    | lst hl hs h hq rv rl => cases ky with
      | tup h' hq' rv' rl' => exact (not_both I h' h).elim
      | lst hl2 hs2 h' hq' rv' rl' =>
        have := nodupA rs.nd hl hl2
        subst this
        rw [hs] at hs2; cases hs2
        rw [hq] at hq'; cases hq'
        simp only [eqN, hs] at e
        rw [if_pos trivial] at e
        exact eqZ_same rfl (fun i x y b h1 h2 e => by
          rw [h1] at h2; cases h2
          obtain ⟨v1, q1, q2⟩ := rv.get h1
          obtain ⟨u1, _, q5⟩ := rl.get q1
          exact eqN_true I rs n q2 q2 q5 e) e
      | dic hl2 hs2 h' hc hd =>
        have := nodupA rs.nd hl hl2
        subst this
        rw [hs] at hs2; cases hs2
      | err hs2 => simp only [eqN, hs, hs2] at e; cases e
      | scr => simp only [eqN, hs] at e; cases e
      | exn => simp only [eqN, hs] at e; cases e
    | dic hl hs h hc hd =>
      simp only [eqN, hs] at e
      cases y <;> simp only at e <;> first | (simp only [RV] at hy; subst hy; cases r; done) | (simp only [RV] at hy; subst hy; obtain ⟨_, r⟩ := r; cases r; done) | cases e
theorem list_arr {its : List Value} {i : Nat} (h : i < its.toArray.size) : its.toArray[i] = its[i]'(by simpa using h) := by simp
/-- THE equality of plain data -/
theorem eqN_at (I : Inv X pins σ H s) (rs : RSt X.K m H st) : ∀ (n : Nat) {A : Around} {x y : D} {vx vy : V} {u w : Value} {b : Bool}, A.units + n < cLine → RV X.K m H x vx → RV X.K m H y vy → RelV vx u → RelV vy w → eqN n st x y = some b → RcAt A s u w b ∧ EqAt A s u w b
  | 0, _, _, _, _, _, _, _, _, _, _, _, _, _, e => by cases e
  | n + 1, A, x, y, vx, vy, u, w, b, hA, hx, hy, ru, rw', e => by
    have hu : A.units < cLine := by omega
    have kx := kd_of I rs hx ru
    have ky := kd_of I rs hy rw'
    have items : ∀ {ds es : List D} {vs ws : List V} {is js : List Value} {c : Bool}, RVs X.K m H ds vs → RVs X.K m H es ws → Vals vs is → Vals ws js → eqZ (eqN n st) ds es = some c →
        ∃ g : Nat → Bool, c = (List.range (min is.toArray.size js.toArray.size)).all g ∧ ∀ j (h1 : j < is.toArray.size) (h2 : j < js.toArray.size), EqAt A.in1 s is.toArray[j] js.toArray[j] (g j) := by
      intro ds es vs ws is js c r1 r2 v1 v2 e
      obtain ⟨g, hg, rfl⟩ := eqZ_get e
      have l1 : ds.length = is.length := r1.len.trans v1.length
      have l2 : es.length = js.length := r2.len.trans v2.length
      refine ⟨g, by rw [l1, l2]; simp, fun j h1 h2 => ?_⟩
      have h1' : j < is.length := by simpa using h1
      have h2' : j < js.length := by simpa using h2
      obtain ⟨x1, ex1⟩ : ∃ x, ds[j]? = some x := ⟨_, List.getElem?_eq_getElem (by rw [l1]; exact h1')⟩
      obtain ⟨x2, ex2⟩ : ∃ x, es[j]? = some x := ⟨_, List.getElem?_eq_getElem (by rw [l2]; exact h2')⟩
      obtain ⟨w1, q1, q2⟩ := r1.get ex1
      obtain ⟨w2, q3, q4⟩ := r2.get ex2
      obtain ⟨u1, q5, q6⟩ := v1.get q1
      obtain ⟨u2, q7, q8⟩ := v2.get q3
      have e1 : is.toArray[j] = u1 := by rw [list_arr h1]; rw [List.getElem?_eq_getElem h1'] at q5; exact Option.some.inj q5
      have e2 : js.toArray[j] = u2 := by rw [list_arr h2]; rw [List.getElem?_eq_getElem h2'] at q7; exact Option.some.inj q7
      rw [e1, e2]
      exact (eqN_at I rs n (A := A.in1) (by show A.units + 1 + n < cLine; omega) q2 q4 q6 q8 (hg j x1 x2 ex1 ex2)).2
    have both : ∀ {a c : Addr}, u = .ref a → w = .ref c → RcAt A s u w b → EqAt A s u w b := fun {a c} eu ew h => by
      subst eu; subst ew
      by_cases hac : a = c
      · subst hac
        have ex := ru.abs
        have : vx = vy := ru.inj rw'
        subst this
        have := eqN_true I rs (n + 1) hx hy ru e
        subst this
        exact EqAt.same _
      · exact EqAt.of_refs hac h
    cases kx with
    | scr => simp only [eqN] at e; cases e
    | err hs => simp only [eqN, hs] at e; cases e
    | exn => simp only [eqN] at e; cases e
    | non => cases ky with
      | non => simp only [eqN] at e; cases e; exact ⟨RcAt.none_none, EqAt.same _⟩
      | bl c => simp only [eqN] at e; cases e; exact ⟨RcAt.none_bool c, EqAt.none_bool c⟩
      | int c t => simp only [eqN] at e; cases e; exact ⟨RcAt.none_int c t, EqAt.none_int c t⟩
      | str c t => simp only [eqN] at e; cases e; exact ⟨RcAt.none_str c t, EqAt.none_str c t⟩
      | tup h hq r rl => simp only [eqN] at e; cases e; exact ⟨RcAt.none_tuple h hu, EqAt.none_tuple h hu⟩
      | lst hl hs h hq r rl => simp only [eqN, hs] at e; cases e; exact ⟨RcAt.none_list h hu, EqAt.none_list h hu⟩
      | dic hl hs h hc hd => simp only [eqN, hs] at e; cases e
      | err hs => simp only [eqN, hs] at e; cases e
      | scr => simp only [eqN] at e; cases e
      | exn => simp only [eqN] at e; cases e
    | bl a => cases ky with
      | non => simp only [eqN] at e; cases e; exact ⟨RcAt.bool_none a, EqAt.bool_none a⟩
      | bl c => simp only [eqN] at e; cases e; exact ⟨RcAt.bool_bool a c, EqAt.bool_bool a c⟩
      | int c t => simp only [eqN] at e; cases e; exact ⟨RcAt.bool_int a c t, EqAt.bool_int a c t⟩
      | str c t => simp only [eqN] at e; cases e; exact ⟨RcAt.bool_str a c t, EqAt.bool_str a c t⟩
      | tup h hq r rl => simp only [eqN] at e; cases e; exact ⟨RcAt.bool_tuple a h hu, EqAt.bool_tuple a h hu⟩
      | lst hl hs h hq r rl => simp only [eqN, hs] at e; cases e; exact ⟨RcAt.bool_list a h hu, EqAt.bool_list a h hu⟩
      | dic hl hs h hc hd => simp only [eqN, hs] at e; cases e
      | err hs => simp only [eqN, hs] at e; cases e
      | scr => simp only [eqN] at e; cases e
      | exn => simp only [eqN] at e; cases e
    | int a t0 => cases ky with
      | non => simp only [eqN] at e; cases e; exact ⟨RcAt.int_none a t0, EqAt.int_none a t0⟩
      | bl c => simp only [eqN] at e; cases e; exact ⟨RcAt.int_bool a t0 c, EqAt.int_bool a t0 c⟩
      | int c t => simp only [eqN] at e; cases e; exact ⟨RcAt.int_int a t0 c t, EqAt.int_int a t0 c t⟩
      | str c t => simp only [eqN] at e; cases e; exact ⟨RcAt.int_str a t0 c t, EqAt.int_str a t0 c t⟩
      | tup h hq r rl => simp only [eqN] at e; cases e; exact ⟨RcAt.int_tuple a t0 h hu, EqAt.int_tuple a t0 h hu⟩
      | lst hl hs h hq r rl => simp only [eqN, hs] at e; cases e; exact ⟨RcAt.int_list a t0 h hu, EqAt.int_list a t0 h hu⟩
      | dic hl hs h hc hd => simp only [eqN, hs] at e; cases e
      | err hs => simp only [eqN, hs] at e; cases e
      | scr => simp only [eqN] at e; cases e
      | exn => simp only [eqN] at e; cases e
    | str a t0 => cases ky with
      | non => simp only [eqN] at e; cases e; exact ⟨RcAt.str_none a t0, EqAt.str_none a t0⟩
      | bl c => simp only [eqN] at e; cases e; exact ⟨RcAt.str_bool a t0 c, EqAt.str_bool a t0 c⟩
      | int c t => simp only [eqN] at e; cases e; exact ⟨RcAt.str_int a t0 c t, EqAt.str_int a t0 c t⟩
      | str c t => simp only [eqN] at e; cases e; exact ⟨RcAt.str_str a t0 c t, EqAt.str_str a t0 c t⟩
      | tup h hq r rl => simp only [eqN] at e; cases e; exact ⟨RcAt.str_tuple a t0 h hu, EqAt.str_tuple a t0 h hu⟩
      | lst hl hs h hq r rl => simp only [eqN, hs] at e; cases e; exact ⟨RcAt.str_list a t0 h hu, EqAt.str_list a t0 h hu⟩
      | err hs => simp only [eqN, hs] at e; cases e
      | dic hl hs h hc hd => simp only [eqN, hs] at e; cases e; exact ⟨rc_str_dict h hc hd a t0 hu, eq_str_dict h hc hd a t0 hu⟩
      | scr => simp only [eqN] at e; cases e
      | exn => simp only [eqN] at e; cases e
    | tup h0 hq0 r0 rl0 => cases ky with
      | non => simp only [eqN] at e; cases e; exact ⟨RcAt.tuple_none h0 hu, EqAt.tuple_none h0 hu⟩
      | bl c => simp only [eqN] at e; cases e; exact ⟨RcAt.tuple_bool c h0 hu, EqAt.tuple_bool c h0 hu⟩
      | int c t => simp only [eqN] at e; cases e; exact ⟨RcAt.tuple_int c t h0 hu, EqAt.tuple_int c t h0 hu⟩
      | str c t => simp only [eqN] at e; cases e; exact ⟨RcAt.tuple_str c t h0 hu, EqAt.tuple_str c t h0 hu⟩
      | tup h hq r rl =>
        have e' := e
        simp only [eqN] at e'
        obtain ⟨c, e1, e2⟩ := Option.map_eq_some_iff.mp e'
        obtain ⟨g, hg, hi⟩ := items r0 r rl0 rl e1
        have z := RcAt.tuples (A := A) h0 h hu hi
        rw [← hg] at z
        have l1 := r0.len.trans rl0.length
        have l2 := r.len.trans rl.length
        simp only [List.size_toArray] at z
        rw [← l1, ← l2, e2] at z
        exact ⟨z, both rfl rfl z⟩
      | lst hl hs h hq r rl => simp only [eqN, hs] at e; cases e; exact ⟨RcAt.tuple_list h0 h hu, EqAt.tuple_list h0 h hu⟩
      | dic hl hs h hc hd => simp only [eqN, hs] at e; cases e
      | err hs => simp only [eqN, hs] at e; cases e
      | scr => simp only [eqN] at e; cases e
      | exn => simp only [eqN] at e; cases e
    | lst hl0 hs0 h0 hq0 r0 rl0 => cases ky with
      | non => simp only [eqN, hs0] at e; cases e; exact ⟨RcAt.list_none h0 hu, EqAt.list_none h0 hu⟩
      | bl c => simp only [eqN, hs0] at e; cases e; exact ⟨RcAt.list_bool c h0 hu, EqAt.list_bool c h0 hu⟩
      | int c t => simp only [eqN, hs0] at e; cases e; exact ⟨RcAt.list_int c t h0 hu, EqAt.list_int c t h0 hu⟩
      | str c t => simp only [eqN, hs0] at e; cases e; exact ⟨RcAt.list_str c t h0 hu, EqAt.list_str c t h0 hu⟩
      | tup h hq r rl => simp only [eqN, hs0] at e; cases e; exact ⟨RcAt.list_tuple h0 h hu, EqAt.list_tuple h0 h hu⟩
      | lst hl hs h hq r rl =>
        have e' := e
        simp only [eqN, hs0, hs] at e'
        have l1 := r0.len.trans rl0.length
        have l2 := r.len.trans rl.length
        split at e'
        · rename_i hlen
          obtain ⟨g, hg, hi⟩ := items r0 r rl0 rl e'
          have hsz : (_ : Nat) = _ := l1.symm.trans (hlen.trans l2)
          have z := RcAt.lists (A := A) h0 h (by simpa using hsz) hu hi
          simp only [List.size_toArray] at z hg
          rw [← hsz, Nat.min_self] at hg
          rw [← hg] at z
          exact ⟨z, both rfl rfl z⟩
        · rename_i hlen
          cases e'
          have z := RcAt.lists_lengths (A := A) h0 h (by simpa [l1, l2] using hlen) hu
          exact ⟨z, both rfl rfl z⟩
      | dic hl hs h hc hd => simp only [eqN, hs, hs0] at e; cases e
      | err hs => simp only [eqN, hs, hs0] at e; cases e
      | scr => simp only [eqN, hs0] at e; cases e
      | exn => simp only [eqN, hs0] at e; cases e
    | dic hl0 hs0 h0 hc0 hd0 => cases ky with
      | str c t => simp only [eqN, hs0] at e; cases e; exact ⟨rc_dict_str h0 hc0 hd0 c t hu, eq_dict_str h0 hc0 hd0 c t hu⟩
      | _ => simp only [eqN, hs0] at e; cases e
end
def EQN : Nat := 60
def eqF (x y : D) (st : Store) : Option Bool := eqN EQN st x y
theorem op_eqF {X : Cx} (hu : X.A.units + 64 < cLine) : OpS X (compareOp .Eq) (opB fun x y st => eqF x y st) := by
  intro pins s σ H x y v u Q I rx ry h
  obtain ⟨m, st, dx, dy, rs, r1, r2, h⟩ := h
  cases q : eqN EQN st dx dy with
  | none => simp only [opB, eqF, q] at h; exact h.elim
  | some b =>
    simp only [opB, eqF, q, Option.map_some] at h
    have z := (eqN_at I rs EQN (A := X.A) (by unfold EQN; omega) r1 r2 rx ry q).1
    exact z X.prog X.w X.xe _ ⟨.bl b, H, I, rfl, h m H _ Ext.refl rs (by simp [RV])⟩
end Mi
set_option Elab.async false
set_option linter.all false
set_option maxRecDepth 100000
set_option maxHeartbeats 4000000
/-! Mi7: operations. -/
namespace Mi
open PySem PySem.Spec L2
open PyProof.Rows hiding St
abbrev OpF := D → D → Store → Option (D × Store)

/-! ### arithmetic -/
def addF : OpF := fun x y st => match x, y with
  | .int a, .int b => some (.int (a + b), st)
  | .str a, .str b => if a.length + b.length ≤ LIM then some (.str (a ++ b), st) else none
  | .tup a, .tup b => if a.length + b.length ≤ LIM then some (.tup (a ++ b), st) else none
  | .ref l, .ref m => match st[l]?, st[m]? with
    | some (.lst a), some (.lst b) => if a.length + b.length ≤ LIM then alloc (.lst (a ++ b)) st else none
    | _, _ => none
  | _, _ => none
def subF : OpF := fun x y st => match x, y with
  | .int a, .int b => some (.int (a - b), st)
  | _, _ => none
def mulF : OpF := fun x y st => match x, y with
  | .int a, .int b => if a.natAbs.log2 + b.natAbs.log2 < 1000000 then some (.int (a * b), st) else none
  | .str a, .int n => if 0 ≤ n ∧ n ≤ 1000000 ∧ a.length * n.toNat ≤ LIM then some (.str ⟨(List.replicate n.toNat a.cps.toList).flatten.toArray⟩, st) else none
  | .tup a, .int n => if 0 ≤ n ∧ n ≤ 1000 ∧ a.length ≤ 1000 then some (.tup (List.replicate n.toNat a).flatten, st) else none
  | .ref l, .int n => match st[l]? with
    | some (.lst a) => if 0 ≤ n ∧ n ≤ 1000000 ∧ a.length * n.toNat ≤ LIM then alloc (.lst (List.replicate n.toNat a).flatten) st else none
    | _ => none
  | _, _ => none
def fdivF : OpF := fun x y st => match x, y with
  | .int a, .int b => if 0 < b ∧ b.natAbs.log2 < 9000 then some (.int (a / b), st) else none
  | _, _ => none
def modF : OpF := fun x y st => match x, y with
  | .int a, .int b => if 0 < b then some (.int (a % b), st) else none
  | _, _ => none
def powF : OpF := fun x y st => match x, y with
  | .int a, .int b => if 0 ≤ b ∧ b ≤ 1000000 ∧ a.natAbs < 2 ^ 64 then some (.int (a ^ b.toNat), st) else none
  | _, _ => none
def negF : D → Store → Option (D × Store) := fun x st => match x with
  | .int a => some (.int (-a), st)
  | _ => none
/-- a comparison of two ints -/
def cmpI (p : Int → Int → Bool) : OpF := fun x y st => match x, y with
  | .int a, .int b => some (.bl (p a b), st)
  | _, _ => none
def isNF : OpF := fun x y st => match y with
  | .non => some (.bl (match x with | .non => true | _ => false), st)
  | _ => none
def isNotNF : OpF := fun x y st => match y with
  | .non => some (.bl (match x with | .non => false | _ => true), st)
  | _ => none
section
variable {X : Cx}
theorem opI2 {f : Value → Value → Sem Value} {C : Int → Int → Prop} {g : Int → Int → V} {G : OpF} (h : OpR X f (rI C g)) (hG : ∀ x y st r, G x y st = some r → ∃ a b, x = .int a ∧ y = .int b ∧ C a b ∧ ∃ d, r = (d, st) ∧ ∀ K m H, RV K m H d (g a b)) : OpS X f G := by
  intro pins s σ H x y v u Q I rx ry q
  obtain ⟨m, st, dx, dy, rs, r1, r2, q⟩ := q
  cases e : G dx dy st with
  | none => rw [e] at q; exact q.elim
  | some r =>
    rw [e] at q
    obtain ⟨a, b, rfl, rfl, c, d, rfl, hd⟩ := hG dx dy st r e
    simp only [RV] at r1 r2
    subst r1; subst r2
    exact h pins s σ H _ _ v u Q I rx ry ⟨a, b, rfl, rfl, c, q m H _ Ext.refl rs (hd X.K m H)⟩
theorem opI20 {f : Value → Value → Sem Value} {g : Int → Int → V} {G : OpF} (h : OpR X f (rI0 g)) (hG : ∀ x y st r, G x y st = some r → ∃ a b, x = .int a ∧ y = .int b ∧ ∃ d, r = (d, st) ∧ ∀ K m H, RV K m H d (g a b)) : OpS X f G := by
  intro pins s σ H x y v u Q I rx ry q
  obtain ⟨m, st, dx, dy, rs, r1, r2, q⟩ := q
  cases e : G dx dy st with
  | none => rw [e] at q; exact q.elim
  | some r =>
    rw [e] at q
    obtain ⟨a, b, rfl, rfl, d, rfl, hd⟩ := hG dx dy st r e
    simp only [RV] at r1 r2
    subst r1; subst r2
    exact h pins s σ H _ _ v u Q I rx ry ⟨a, b, rfl, rfl, q m H _ Ext.refl rs (hd X.K m H)⟩
theorem os_sub : OpS X (binaryOp .Sub) subF := opI20 op_sub fun x y st r e => by
  unfold subF at e
  split at e
  · cases e; exact ⟨_, _, rfl, rfl, _, rfl, fun _ _ _ => by simp [RV]⟩
  · cases e
theorem os_fdiv : OpS X (binaryOp .FloorDiv) fdivF := opI2 op_fdivW fun x y st r e => by
  unfold fdivF at e
  split at e
  · split at e
    · rename_i h
      cases e; exact ⟨_, _, rfl, rfl, h, _, rfl, fun _ _ _ => by simp [RV]⟩
    · cases e
  · cases e
theorem os_mod : OpS X (binaryOp .Mod) modF := opI2 op_mod fun x y st r e => by
  unfold modF at e
  split at e
  · split at e
    · rename_i h
      cases e; exact ⟨_, _, rfl, rfl, h, _, rfl, fun _ _ _ => by simp [RV]⟩
    · cases e
  · cases e
theorem os_pow : OpS X (binaryOp .Pow) powF := opI2 op_pow fun x y st r e => by
  unfold powF at e
  split at e
  · split at e
    · rename_i h
      cases e; exact ⟨_, _, rfl, rfl, h, _, rfl, fun _ _ _ => by simp [RV]⟩
    · cases e
  · cases e
theorem os_cmpI {op : CmpOp} {p : Int → Int → Bool} (h : OpR X (compareOp op) (rI0 fun i j => .bl (p i j))) : OpS X (compareOp op) (cmpI p) := opI20 h fun x y st r e => by
  unfold cmpI at e
  split at e
  · cases e; exact ⟨_, _, rfl, rfl, _, rfl, fun _ _ _ => by simp [RV]⟩
  · cases e
theorem os_lt : OpS X (compareOp .Lt) (cmpI fun i j => decide (i < j)) := os_cmpI op_lt
theorem os_le : OpS X (compareOp .LtE) (cmpI fun i j => decide (i ≤ j)) := os_cmpI op_le
theorem os_gt : OpS X (compareOp .Gt) (cmpI fun i j => decide (j < i)) := os_cmpI op_gt
theorem os_ge : OpS X (compareOp .GtE) (cmpI fun i j => decide (j ≤ i)) := os_cmpI op_ge
theorem us_neg : UnS X (unaryOp .USub) negF := by
  intro pins s σ H x v Q I rx q
  obtain ⟨m, st, dx, rs, r1, q⟩ := q
  cases dx with
  | int a =>
    simp only [RV] at r1
    subst r1
    exact un_neg pins s σ H _ v Q I rx ⟨a, rfl, q m H _ Ext.refl rs (by simp [RV])⟩
  | _ => exact q.elim
theorem rv_non_iff {K : PySem.W.Frag} {m : List Addr} {H : Hp} {d : D} {v : V} (r : RV K m H d v) : decide (v = .non) = (match d with | .non => true | _ => false) := by
  cases d with
  | non => simp only [RV] at r; subst r; rfl
  | bl _ => simp only [RV] at r; subst r; rfl
  | int _ => simp only [RV] at r; subst r; rfl
  | str _ => simp only [RV] at r; subst r; rfl
  | tup _ => simp only [RV] at r; obtain ⟨_, _, rfl, _⟩ := r; rfl
  | ref _ => simp only [RV] at r; obtain ⟨_, rfl, _⟩ := r; rfl
  | scr _ => simp only [RV] at r; obtain ⟨_, rfl, _⟩ := r; rfl
  | exn => simp only [RV] at r; obtain ⟨rfl, _⟩ := r; rfl
theorem os_isN : OpS X (compareOp .Is) isNF := by
  intro pins s σ H x y v u Q I rx ry q
  obtain ⟨m, st, dx, dy, rs, r1, r2, q⟩ := q
  cases dy with
  | non =>
    simp only [RV] at r2
    subst r2
    refine op_isN pins s σ H _ _ v u Q I rx ry ⟨rfl, ?_⟩
    rw [rv_non_iff r1]
    exact q m H _ Ext.refl rs (by cases dx <;> simp [RV])
  | _ => exact q.elim
theorem os_isNotN : OpS X (compareOp .IsNot) isNotNF := by
  intro pins s σ H x y v u Q I rx ry q
  obtain ⟨m, st, dx, dy, rs, r1, r2, q⟩ := q
  cases dy with
  | non =>
    simp only [RV] at r2
    subst r2
    refine op_notN pins s σ H _ _ v u Q I rx ry ⟨rfl, ?_⟩
    rw [rv_non_iff r1]
    exact q m H _ Ext.refl rs (by cases dx <;> simp [RV])
  | _ => exact q.elim
theorem os_add : OpS X (binaryOp .Add) addF := by
  intro pins s σ H x y v u Q I rx ry q
  obtain ⟨m, st, dx, dy, rs, r1, r2, q⟩ := q
  cases dx with
  | int a =>
    cases dy with
    | int b =>
      simp only [RV] at r1 r2
      subst r1; subst r2
      exact op_add pins s σ H _ _ v u Q I rx ry ⟨a, b, rfl, rfl, q m H _ Ext.refl rs (by simp [RV])⟩
    | _ => exact q.elim
  | str a =>
    cases dy with
    | str b =>
      simp only [RV] at r1 r2
      subst r1; subst r2
      simp only [addF] at q
      split at q
      · rename_i hz
        exact op_add_str pins s σ H _ _ v u Q I rx ry ⟨a, b, rfl, rfl, ofLim hz, q m H _ Ext.refl rs (by simp [RV])⟩
      · exact q.elim
    | _ => exact q.elim
  | tup a =>
    cases dy with
    | tup b =>
      simp only [addF] at q
      split at q
      · rename_i hz
        have r1' := r1
        have r2' := r2
        simp only [RV] at r1 r2
        obtain ⟨p, vs, rfl, h1, h2⟩ := r1
        obtain ⟨p', vs', rfl, h1', h2'⟩ := r2
        refine op_catA pins s σ H _ _ v u Q I rx ry ⟨p, p', vs, vs', rfl, rfl, h1, h1', by rw [← h2.len, ← h2'.len]; exact ofLim hz, fun e => ?_, fun _ e => ?_, fun _ _ p hp => ?_⟩
        · have : a = [] := by
            have := h2.len
            rw [e] at this
            exact List.eq_nil_of_length_eq_zero (by simpa using this)
          subst this
          exact q m H _ Ext.refl rs (by simpa using r2')
        · have : b = [] := by
            have := h2'.len
            rw [e] at this
            exact List.eq_nil_of_length_eq_zero (by simpa using this)
          subst this
          exact q m H _ Ext.refl rs (by simpa using r1')
        · exact postO_tup rs q hp (h2.append h2')
      · exact q.elim
    | _ => exact q.elim
  | ref l =>
    cases dy with
    | ref l' =>
      simp only [RV] at r1 r2
      obtain ⟨p, rfl, h1⟩ := r1
      obtain ⟨p', rfl, h1'⟩ := r2
      simp only [addF] at q
      split at q
      · rename_i a b ha hb
        split at q
        · rename_i hz
          obtain ⟨vs, e1, e2⟩ := rs.lst h1 ha
          obtain ⟨vs', e1', e2'⟩ := rs.lst h1' hb
          exact op_cat pins s σ H _ _ v u Q I rx ry ⟨p, p', vs, vs', rfl, rfl, e1, e1', by rw [← e2.len, ← e2'.len]; exact ofLim hz, fun p hp => postO_lst rs q hp (e2.append e2')⟩
        · exact q.elim
      · exact q.elim
    | _ => exact q.elim
  | _ => exact q.elim

/-! ### items -/
def ixF : OpF := fun x y st => match x, y with
  | .tup ds, .int i => (atI ds i).map fun d => (d, st)
  | .str z, .int i => if z.length ≤ LIM then (atI z.cps.toList i).map fun c => (.str ⟨#[c]⟩, st) else none
  | .scr ns, .int i => (atI ns i).map fun n => (.int n, st)
  | .ref l, .int i => match st[l]? with
    | some (.lst ds) => (atI ds i).map fun d => (d, st)
    | some (.dic kvs) => (kvGet kvs (Sum.inl i)).map fun d => (d, st)
    | _ => none
  | .ref l, .str z => match st[l]? with
    | some (.dic kvs) => (kvGet kvs (Sum.inr z)).map fun d => (d, st)
    | _ => none
  | _, _ => none
theorem RVs.atI {K : PySem.W.Frag} {m : List Addr} {H : Hp} {ds : List D} {vs : List V} {i : Int} {d : D} (r : RVs K m H ds vs) (e : L2.atI ds i = some d) : ∃ v, L2.atI vs i = some v ∧ RV K m H d v := by
  unfold L2.atI at e ⊢
  rw [r.len] at e
  cases q : ixN vs.length i with
  | none => rw [q] at e; cases e
  | some j =>
    rw [q] at e
    exact r.get e
theorem ix_dict (hu : X.A.units + 1 < cLine) : IxR X (fun x y H Q => ∃ a v, x = .ref a ∧ DGet H a y (some v) ∧ Q v H) := by
  intro value slice pins s σ H x y v u Q I rx ry h hs
  obtain ⟨a, w, rfl, g, q⟩ := h
  cases rx
  exact tail_any (dict_typeIs I g) PySem.F.slot_dict_getitem.lookup (d_getItem hu I g ry fun w' s' I' r' => ⟨w, H, I', r', q⟩) hs
theorem is_ix (hu : X.A.units + 1 < cLine) : IxS X ixF := by
  intro value slice pins s σ H x y v u Q I rx ry q hs
  obtain ⟨m, st, dx, dy, rs, r1, r2, q⟩ := q
  cases dx with
  | tup ds =>
    cases dy with
    | int i =>
      simp only [RV] at r1 r2
      obtain ⟨p, vs, rfl, h1, h2⟩ := r1
      subst r2
      simp only [ixF] at q
      cases e : atI ds i with
      | none => rw [e] at q; exact q.elim
      | some d =>
        rw [e] at q
        obtain ⟨w, e1, e2⟩ := h2.atI e
        exact ix_tup value slice pins s σ H _ _ v u Q I rx ry ⟨p, vs, i, w, rfl, rfl, h1, e1, q m H _ Ext.refl rs e2⟩ hs
    | _ => exact q.elim
  | str z =>
    cases dy with
    | int i =>
      simp only [RV] at r1 r2
      subst r1; subst r2
      simp only [ixF] at q
      split at q
      · rename_i hz
        cases e : atI z.cps.toList i with
        | none => rw [e] at q; exact q.elim
        | some c =>
          rw [e] at q
          exact ix_str value slice pins s σ H _ _ v u Q I rx ry ⟨z, i, c, rfl, rfl, ofLim hz, e, q m H _ Ext.refl rs (by simp [RV])⟩ hs
      · exact q.elim
    | _ => exact q.elim
  | scr ns =>
    cases dy with
    | int i =>
      simp only [RV] at r1 r2
      obtain ⟨p, rfl, h1⟩ := r1
      subst r2
      simp only [ixF] at q
      cases e : atI ns i with
      | none => rw [e] at q; exact q.elim
      | some n =>
        rw [e] at q
        have e1 : atI (ns.map V.int) i = some (.int n) := by
          unfold atI at e ⊢
          rw [List.length_map]
          cases q2 : ixN ns.length i with
          | none => rw [q2] at e; cases e
          | some j => rw [q2] at e; show (ns.map V.int)[j]? = _; rw [List.getElem?_map]; have e : ns[j]? = some n := e; rw [e]; rfl
        exact ix_list value slice pins s σ H _ _ v u Q I rx ry ⟨p, _, i, _, rfl, rfl, h1.seq, e1, q m H _ Ext.refl rs (by simp [RV])⟩ hs
    | _ => exact q.elim
  | ref l =>
    simp only [RV] at r1
    obtain ⟨p, rfl, h1⟩ := r1
    cases dy with
    | int i =>
      simp only [RV] at r2
      subst r2
      simp only [ixF] at q
      split at q
      · rename_i ds ho
        obtain ⟨vs, e1, e2⟩ := rs.lst h1 ho
        cases e : atI ds i with
        | none => rw [e] at q; exact q.elim
        | some d =>
          rw [e] at q
          obtain ⟨w, e3, e4⟩ := e2.atI e
          exact ix_list value slice pins s σ H _ _ v u Q I rx ry ⟨p, vs, i, w, rfl, rfl, SqL.of e1, e3, q m H _ Ext.refl rs e4⟩ hs
      · rename_i kvs ho
        obtain ⟨ws, e1, e2⟩ := rs.dic h1 ho
        cases e : kvGet kvs (Sum.inl i) with
        | none => rw [e] at q; exact q.elim
        | some d =>
          rw [e] at q
          obtain ⟨w, e3, e4⟩ := e2.get _ e
          exact ix_dict hu value slice pins s σ H _ _ v u Q I rx ry ⟨p, w, rfl, by rw [← e3]; exact DGet.k (k := Sum.inl i) e1, q m H _ Ext.refl rs e4⟩ hs
      · exact q.elim
    | str z =>
      simp only [RV] at r2
      subst r2
      simp only [ixF] at q
      split at q
      · rename_i kvs ho
        obtain ⟨ws, e1, e2⟩ := rs.dic h1 ho
        cases e : kvGet kvs (Sum.inr z) with
        | none => rw [e] at q; exact q.elim
        | some d =>
          rw [e] at q
          obtain ⟨w, e3, e4⟩ := e2.get _ e
          exact ix_dict hu value slice pins s σ H _ _ v u Q I rx ry ⟨p, w, rfl, by rw [← e3]; exact DGet.k (k := Sum.inr z) e1, q m H _ Ext.refl rs e4⟩ hs
      · exact q.elim
    | _ => exact q.elim
  | _ => exact q.elim

/-! ### slices -/
def cutD {α : Type} (xs : List α) (lo hi : Option Int) : List α := (xs.drop (HT.sIx xs.length 0 lo)).take (HT.sIx xs.length xs.length hi - HT.sIx xs.length 0 lo)
def slF (x : D) (lo hi : Option Int) (st : Store) : Option (D × Store) := match x with
  | .tup ds => some (.tup (cutD ds lo hi), st)
  | .str z => if z.length ≤ LIM then some (.str (cutS z lo hi), st) else none
  | .scr ns => alloc (.lst (cutD (ns.map .int) lo hi)) st
  | .ref l => match st[l]? with
    | some (.lst ds) => alloc (.lst (cutD ds lo hi)) st
    | _ => none
  | _ => none
theorem RVs.cut {K : PySem.W.Frag} {m : List Addr} {H : Hp} {ds : List D} {vs : List V} (r : RVs K m H ds vs) (lo hi : Option Int) : RVs K m H (cutD ds lo hi) (cutV vs lo hi) := by
  unfold cutD cutV
  rw [r.len]
  exact (r.drop _).take _
theorem ss_sl : SlS X slF := by
  intro pins s σ H x v vl vu lo hi sl Q I rx hsl pl pu q
  obtain ⟨m, st, dx, rs, r1, q⟩ := q
  cases dx with
  | tup ds =>
    have r1' := r1
    simp only [RV] at r1
    obtain ⟨p, vs, rfl, h1, h2⟩ := r1
    refine sl_tupA pins s σ H _ v vl vu lo hi sl Q I rx hsl pl pu ⟨p, vs, rfl, h1, fun hw => ?_, fun _ p hp => postO_tup rs q hp (h2.cut lo hi)⟩
    have : cutD ds lo hi = ds := by
      unfold cutD
      rw [h2.len, hw.1, hw.2, List.drop_zero, Nat.sub_zero, List.take_of_length_le (by rw [h2.len]; exact Nat.le_refl _)]
    simp only [slF, this] at q
    exact q m H _ Ext.refl rs r1'
  | str z =>
    simp only [RV] at r1
    subst r1
    simp only [slF] at q
    split at q
    · rename_i hz
      exact sl_str pins s σ H _ v vl vu lo hi sl Q I rx hsl pl pu ⟨z, rfl, ofLim hz, q m H _ Ext.refl rs (by simp [RV])⟩
    · exact q.elim
  | scr ns =>
    simp only [RV] at r1
    obtain ⟨p, rfl, h1⟩ := r1
    have h2 : RVs X.K m H (ns.map D.int) (ns.map V.int) := RVs.ints.mpr rfl
    exact sl_list pins s σ H _ v vl vu lo hi sl Q I rx hsl pl pu ⟨p, _, rfl, h1.seq, fun p hp => postO_lst rs q hp (h2.cut lo hi)⟩
  | ref l =>
    simp only [RV] at r1
    obtain ⟨p, rfl, h1⟩ := r1
    simp only [slF] at q
    split at q
    · rename_i ds ho
      obtain ⟨vs, e1, e2⟩ := rs.lst h1 ho
      exact sl_list pins s σ H _ v vl vu lo hi sl Q I rx hsl pl pu ⟨p, vs, rfl, SqL.of e1, fun p hp => postO_lst rs q hp (e2.cut lo hi)⟩
    · exact q.elim
  | _ => exact q.elim
end
end Mi
set_option Elab.async false
set_option linter.all false
set_option maxRecDepth 100000
set_option maxHeartbeats 4000000
/-! Mi8: !=, in, products. -/
namespace Mi
open PySem PySem.Spec L2
open PyProof.Rows hiding St
open AutoSeq1 (wpAny_loadPart')
open MeetsSeq SeqAt

def isDicF (x : D) (st : Store) : Bool := match x with
  | .ref l => (match st[l]? with | some (.dic _) => true | _ => false)
  | _ => false
def neF (x y : D) (st : Store) : Option Bool := if isDicF x st || isDicF y st then none else (eqN EQN st x y).map (!·)
section
variable {X : Cx} {pins : List (Addr × Obj)} {σ : L2.St} {H : Hp} {s : Shared} {m : List Addr} {st : Store}
theorem eq_items (I : Inv X pins σ H s) (rs : RSt X.K m H st) {n : Nat} {A : Around} (hA : A.units + 1 + n < cLine) {ds es : List D} {vs ws : List V} {is js : List Value} {c : Bool} (r1 : RVs X.K m H ds vs) (r2 : RVs X.K m H es ws) (v1 : Vals vs is) (v2 : Vals ws js) (e : eqZ (eqN n st) ds es = some c) :
    ∃ g : Nat → Bool, c = (List.range (min is.toArray.size js.toArray.size)).all g ∧ ∀ j (h1 : j < is.toArray.size) (h2 : j < js.toArray.size), EqAt A.in1 s is.toArray[j] js.toArray[j] (g j) := by
  obtain ⟨g, hg, rfl⟩ := eqZ_get e
  have l1 : ds.length = is.length := r1.len.trans v1.length
  have l2 : es.length = js.length := r2.len.trans v2.length
  refine ⟨g, by rw [l1, l2]; simp, fun j h1 h2 => ?_⟩
  have h1' : j < is.length := by simpa using h1
  have h2' : j < js.length := by simpa using h2
  obtain ⟨x1, ex1⟩ : ∃ x, ds[j]? = some x := ⟨_, List.getElem?_eq_getElem (by rw [l1]; exact h1')⟩
  obtain ⟨x2, ex2⟩ : ∃ x, es[j]? = some x := ⟨_, List.getElem?_eq_getElem (by rw [l2]; exact h2')⟩
  obtain ⟨w1, q1, q2⟩ := r1.get ex1
  obtain ⟨w2, q3, q4⟩ := r2.get ex2
  obtain ⟨u1, q5, q6⟩ := v1.get q1
  obtain ⟨u2, q7, q8⟩ := v2.get q3
  have e1 : is.toArray[j] = u1 := by rw [list_arr h1]; rw [List.getElem?_eq_getElem h1'] at q5; exact Option.some.inj q5
  have e2 : js.toArray[j] = u2 := by rw [list_arr h2]; rw [List.getElem?_eq_getElem h2'] at q7; exact Option.some.inj q7
  rw [e1, e2]
  exact (eqN_at I rs n (A := A.in1) hA q2 q4 q6 q8 (hg j x1 x2 ex1 ex2)).2
theorem neN_at (I : Inv X pins σ H s) (rs : RSt X.K m H st) {n : Nat} {A : Around} {x y : D} {vx vy : V} {u w : Value} {b : Bool} (hA : A.units + (n + 1) < cLine) (hx : RV X.K m H x vx) (hy : RV X.K m H y vy) (ru : RelV vx u) (rw' : RelV vy w)
    (nx : isDicF x st = false) (ny : isDicF y st = false) (e : eqN (n + 1) st x y = some b) : RcNeAt A s u w (!b) := by
  have hu : A.units < cLine := by omega
  have kx := kd_of I rs hx ru
  have ky := kd_of I rs hy rw'
  cases kx with
  | scr => simp only [eqN] at e; cases e
  | exn => simp only [eqN] at e; cases e
  | dic hl hs h hc hd => simp only [isDicF, hs] at nx; cases nx
  | err hs => simp only [eqN, hs] at e; cases e
  | non => cases ky with
    | non => simp only [eqN] at e; cases e; exact RcNeAt.none_none
    | bl c => simp only [eqN] at e; cases e; exact RcNeAt.none_bool c
    | int c t => simp only [eqN] at e; cases e; exact RcNeAt.none_int c t
    | str c t => simp only [eqN] at e; cases e; exact RcNeAt.none_str c t
    | tup h hq r rl => simp only [eqN] at e; cases e; exact RcNeAt.none_tuple h hu
    | lst hl hs h hq r rl => simp only [eqN, hs] at e; cases e; exact RcNeAt.none_list h hu
    | dic hl hs h hc hd => simp only [isDicF, hs] at ny; cases ny
    | err hs => simp only [eqN, hs] at e; cases e
    | scr => simp only [eqN] at e; cases e
    | exn => simp only [eqN] at e; cases e
  | bl a => cases ky with
    | non => simp only [eqN] at e; cases e; exact RcNeAt.bool_none a
    | bl c => simp only [eqN] at e; cases e; exact RcNeAt.bool_bool a c
    | int c t => simp only [eqN] at e; cases e; exact RcNeAt.bool_int a c t
    | str c t => simp only [eqN] at e; cases e; exact RcNeAt.bool_str a c t
    | tup h hq r rl => simp only [eqN] at e; cases e; exact RcNeAt.bool_tuple a h hu
    | lst hl hs h hq r rl => simp only [eqN, hs] at e; cases e; exact RcNeAt.bool_list a h hu
    | dic hl hs h hc hd => simp only [isDicF, hs] at ny; cases ny
    | err hs => simp only [eqN, hs] at e; cases e
    | scr => simp only [eqN] at e; cases e
    | exn => simp only [eqN] at e; cases e
  | int a t0 => cases ky with
    | non => simp only [eqN] at e; cases e; exact RcNeAt.int_none a t0
    | bl c => simp only [eqN] at e; cases e; exact RcNeAt.int_bool a t0 c
    | int c t => simp only [eqN] at e; cases e; exact RcNeAt.int_int a t0 c t
    | str c t => simp only [eqN] at e; cases e; exact RcNeAt.int_str a t0 c t
    | tup h hq r rl => simp only [eqN] at e; cases e; exact RcNeAt.int_tuple a t0 h hu
    | lst hl hs h hq r rl => simp only [eqN, hs] at e; cases e; exact RcNeAt.int_list a t0 h hu
    | dic hl hs h hc hd => simp only [isDicF, hs] at ny; cases ny
    | err hs => simp only [eqN, hs] at e; cases e
    | scr => simp only [eqN] at e; cases e
    | exn => simp only [eqN] at e; cases e
  | str a t0 => cases ky with
    | non => simp only [eqN] at e; cases e; exact RcNeAt.str_none a t0
    | bl c => simp only [eqN] at e; cases e; exact RcNeAt.str_bool a t0 c
    | int c t => simp only [eqN] at e; cases e; exact RcNeAt.str_int a t0 c t
    | str c t => simp only [eqN] at e; cases e; exact RcNeAt.str_str a t0 c t
    | tup h hq r rl => simp only [eqN] at e; cases e; exact RcNeAt.str_tuple a t0 h hu
    | lst hl hs h hq r rl => simp only [eqN, hs] at e; cases e; exact RcNeAt.str_list a t0 h hu
    | dic hl hs h hc hd => simp only [isDicF, hs] at ny; cases ny
    | err hs => simp only [eqN, hs] at e; cases e
    | scr => simp only [eqN] at e; cases e
    | exn => simp only [eqN] at e; cases e
  | tup h0 hq0 r0 rl0 => cases ky with
    | non => simp only [eqN] at e; cases e; exact RcNeAt.tuple_none h0 hu
    | bl c => simp only [eqN] at e; cases e; exact RcNeAt.tuple_bool c h0 hu
    | int c t => simp only [eqN] at e; cases e; exact RcNeAt.tuple_int c t h0 hu
    | str c t => simp only [eqN] at e; cases e; exact RcNeAt.tuple_str c t h0 hu
    | tup h hq r rl =>
      simp only [eqN] at e
      obtain ⟨c, e1, e2⟩ := Option.map_eq_some_iff.mp e
      obtain ⟨g, hg, hi⟩ := eq_items I rs (A := A) (by omega) r0 r rl0 rl e1
      have z := RcNeAt.tuples (A := A) h0 h hu hi
      rw [← hg] at z
      have l1 := r0.len.trans rl0.length
      have l2 := r.len.trans rl.length
      simp only [List.size_toArray] at z
      rw [← l1, ← l2, e2] at z
      exact z
    | lst hl hs h hq r rl => simp only [eqN, hs] at e; cases e; exact RcNeAt.tuple_list h0 h hu
    | dic hl hs h hc hd => simp only [isDicF, hs] at ny; cases ny
    | err hs => simp only [eqN, hs] at e; cases e
    | scr => simp only [eqN] at e; cases e
    | exn => simp only [eqN] at e; cases e
  | lst hl0 hs0 h0 hq0 r0 rl0 => cases ky with
    | non => simp only [eqN, hs0] at e; cases e; exact RcNeAt.list_none h0 hu
    | bl c => simp only [eqN, hs0] at e; cases e; exact RcNeAt.list_bool c h0 hu
    | int c t => simp only [eqN, hs0] at e; cases e; exact RcNeAt.list_int c t h0 hu
    | str c t => simp only [eqN, hs0] at e; cases e; exact RcNeAt.list_str c t h0 hu
    | tup h hq r rl => simp only [eqN, hs0] at e; cases e; exact RcNeAt.list_tuple h0 h hu
    | lst hl hs h hq r rl =>
      simp only [eqN, hs0, hs] at e
      have l1 := r0.len.trans rl0.length
      have l2 := r.len.trans rl.length
      split at e
      · rename_i hlen
        obtain ⟨g, hg, hi⟩ := eq_items I rs (A := A) (by omega) r0 r rl0 rl e
        have hsz : (_ : Nat) = _ := l1.symm.trans (hlen.trans l2)
        have z := RcNeAt.lists (A := A) h0 h (by simpa using hsz) hu hi
        simp only [List.size_toArray] at z hg
        rw [← hsz, Nat.min_self] at hg
        rw [← hg] at z
        exact z
      · rename_i hlen
        cases e
        exact RcNeAt.lists_lengths (A := A) h0 h (by simpa [l1, l2] using hlen) hu
    | dic hl hs h hc hd => simp only [isDicF, hs] at ny; cases ny
    | err hs => simp only [eqN, hs, hs0] at e; cases e
    | scr => simp only [eqN, hs0] at e; cases e
    | exn => simp only [eqN, hs0] at e; cases e
end
section
variable {X : Cx}
theorem os_eq (hu : X.A.units + 64 < cLine) : OpS X (compareOp .Eq) (opB eqF) := op_eqF hu
theorem os_ne (hu : X.A.units + 64 < cLine) : OpS X (compareOp .NotEq) (opB neF) := by
  intro pins s σ H x y v u Q I rx ry h
  obtain ⟨m, st, dx, dy, rs, r1, r2, h⟩ := h
  by_cases hn : (isDicF dx st || isDicF dy st) = true
  · simp only [opB, neF, hn, if_true] at h; exact h.elim
  · have h1 : isDicF dx st = false := by cases q : isDicF dx st <;> simp_all
    have h2 : isDicF dy st = false := by cases q : isDicF dy st <;> simp_all
    cases q : eqN EQN st dx dy with
    | none => simp only [opB, neF, hn, q] at h; exact h.elim
    | some b =>
      simp only [opB, neF, hn, q, Option.map_some] at h
      have z := neN_at I rs (n := 59) (A := X.A) (by omega) r1 r2 rx ry h1 h2 q
      exact z X.prog X.w X.xe _ ⟨.bl (!b), H, I, rfl, h m H _ Ext.refl rs (by simp [RV])⟩

/-! ### in -/
def anyEq (st : Store) (x : D) : List D → Option Bool
  | [] => some false
  | y :: ys => match eqN EQN st y x, anyEq st x ys with
    | some b, some c => some (b || c)
    | _, _ => none
def strIn (a b : Str) : Bool := if a.length = 1 then decide (a.cps.getD 0 0 ∈ b.cps.toList) else !(Builtin.Str.occurrences b a 0 b.length 1).isEmpty
def inF (x y : D) (st : Store) : Option Bool := match y with
  | .tup ds => anyEq st x ds
  | .ref l => (match st[l]? with | some (.lst ds) => anyEq st x ds | _ => none)
  | .str b => (match x with | .str a => some (strIn a b) | _ => none)
  | _ => none
theorem eqZ_det {f : D → D → Option Bool} : ∀ {xs xs' ys : List D} {b b' : Bool}, xs.length = xs'.length → (∀ (i : Nat) (x x' y : D) (c c' : Bool), xs[i]? = some x → xs'[i]? = some x' → f x y = some c → f x' y = some c' → c = c') → eqZ f xs ys = some b → eqZ f xs' ys = some b' → b = b'
  | [], [], ys, b, b', _, _, e, e' => by simp only [eqZ] at e e'; cases e; cases e'; rfl
  | [], _ :: _, _, _, _, h, _, _, _ => by cases h
  | _ :: _, [], _, _, _, h, _, _, _ => by cases h
  | x :: xs, x' :: xs', [], b, b', _, _, e, e' => by simp only [eqZ] at e e'; cases e; cases e'; rfl
  | x :: xs, x' :: xs', y :: ys, b, b', hl, h, e, e' => by
    simp only [eqZ] at e e'
    split at e
    · rename_i b1 b2 e1 e2
      split at e'
      · rename_i c1 c2 e3 e4
        cases e; cases e'
        rw [h 0 x x' y b1 c1 rfl rfl e1 e3, eqZ_det (by simpa using hl) (fun i x x' y c c' q1 q2 => h (i + 1) x x' y c c' (by simpa using q1) (by simpa using q2)) e2 e4]
      · cases e'
    · cases e
theorem eqN_det {pins : List (Addr × Obj)} {σ : L2.St} {H : Hp} {s : Shared} {m : List Addr} {st : Store} (I : Inv X pins σ H s) (rs : RSt X.K m H st) : ∀ (n : Nat) {x x' y : D} {v : V} {u : Value} {b b' : Bool}, RV X.K m H x v → RV X.K m H x' v → RelV v u → eqN n st x y = some b → eqN n st x' y = some b' → b = b'
  | 0, _, _, _, _, _, _, _, _, _, _, e, _ => by cases e
  | n + 1, x, x', y, v, u, b, b', hx, hx', r, e, e' => by
    have kx := kd_of I rs hx r
    have kx' := kd_of I rs hx' r
    cases kx with
    | err hs => simp only [eqN, hs] at e; cases e
    | scr => simp only [eqN] at e; cases e
    | exn => simp only [eqN] at e; cases e
    | non => cases kx' with
      | non => rw [e] at e'; exact Option.some.inj e'
      | scr => simp only [eqN] at e'; cases e'
      | exn => simp only [eqN] at e'; cases e'
    | bl a => cases kx' with
      | bl => rw [e] at e'; exact Option.some.inj e'
      | scr => simp only [eqN] at e'; cases e'
      | exn => simp only [eqN] at e'; cases e'
    | int a t => cases kx' with
      | int => rw [e] at e'; exact Option.some.inj e'
      | scr => simp only [eqN] at e'; cases e'
      | exn => simp only [eqN] at e'; cases e'
    | str a t => cases kx' with
      | str => rw [e] at e'; exact Option.some.inj e'
      | scr => simp only [eqN] at e'; cases e'
      | exn => simp only [eqN] at e'; cases e'
    | tup h hq rv rl => cases kx' with
      | err hs => simp only [eqN, hs] at e'; cases e'
      | scr => simp only [eqN] at e'; cases e'
      | exn => simp only [eqN] at e'; cases e'
      | lst hl hs h' hq' rv' rl' => exact (not_both I h h').elim
      | dic hl hs h' hc hd =>
        obtain ⟨o, e', c, _⟩ := h
        rw [e'] at h'; cases h'
        rw [c] at hc; exact absurd hc (by simp)
      | tup h' hq' rv' rl' =>
        have := tup_inj I hq hq'
        subst this
        have hl := rv.len.trans rv'.len.symm
        cases y with
        | tup ys =>
          simp only [eqN] at e e'
          obtain ⟨c, e1, rfl⟩ := Option.map_eq_some_iff.mp e
          obtain ⟨c', e1', rfl⟩ := Option.map_eq_some_iff.mp e'
          have : c = c' := eqZ_det hl (fun i x x' y c c' h1 h2 q1 q2 => by
            obtain ⟨v1, p1, p2⟩ := rv.get h1
            obtain ⟨v2, p3, p4⟩ := rv'.get h2
            rw [p1] at p3; cases p3
            obtain ⟨u1, _, p5⟩ := rl.get p1
            exact eqN_det I rs n p2 p4 p5 q1 q2) e1 e1'
          rw [this, hl]
        | ref k =>
          simp only [eqN] at e e'
          rw [e] at e'; exact Option.some.inj e'
        | _ => simp only [eqN] at e e'; first | (rw [e] at e'; exact Option.some.inj e') | cases e
    | lst hl hs h hq rv rl => cases kx' with
      | err hs => simp only [eqN, hs] at e'; cases e'
      | tup h' hq' rv' rl' => exact (not_both I h' h).elim
      | lst hl2 hs2 h' hq' rv' rl' =>
        have := nodupA rs.nd hl hl2
        subst this
        rw [e] at e'; exact Option.some.inj e'
      | dic hl2 hs2 h' hc hd =>
        have := nodupA rs.nd hl hl2
        subst this
        rw [hs] at hs2; cases hs2
      | scr => simp only [eqN] at e'; cases e'
      | exn => simp only [eqN] at e'; cases e'
    | dic hl hs h hc hd => cases kx' with
      | err hs => simp only [eqN, hs] at e'; cases e'
      | tup h' hq' rv' rl' =>
        obtain ⟨o, e1, c, _⟩ := h'
        rw [e1] at h; cases h
        rw [c] at hc; exact absurd hc (by simp)
      | lst hl2 hs2 h' hq' rv' rl' =>
        have := nodupA rs.nd hl hl2
        subst this
        rw [hs] at hs2; cases hs2
      | dic hl2 hs2 h' hc' hd' =>
        have := nodupA rs.nd hl hl2
        subst this
        rw [e] at e'; exact Option.some.inj e'
      | scr => simp only [eqN] at e'; cases e'
      | exn => simp only [eqN] at e'; cases e'
open Classical in
theorem anyEq_at {pins : List (Addr × Obj)} {σ : L2.St} {H : Hp} {s : Shared} {m : List Addr} {st : Store} (I : Inv X pins σ H s) (rs : RSt X.K m H st) (hu : X.A.units + 64 < cLine) {x : D} {vx : V} {u : Value} (hx : RV X.K m H x vx) (ru : RelV vx u)
    {ds : List D} {vs : List V} {is : List Value} {b : Bool} (r : RVs X.K m H ds vs) (v : Vals vs is) (e : anyEq st x ds = some b) : ∃ f : Value → Bool, (∀ y ∈ is, EqAt X.A.in1 s y u (f y)) ∧ b = is.any f := by
  let f : Value → Bool := fun y => decide (∃ d, ∃ w, RV X.K m H d w ∧ RelV w y ∧ eqN EQN st d x = some true)
  have one : ∀ {d : D} {w : V} {y : Value} {c : Bool}, RV X.K m H d w → RelV w y → eqN EQN st d x = some c → f y = c := by
    intro d w y c h1 h2 h3
    cases c with
    | true => exact decide_eq_true ⟨d, w, h1, h2, h3⟩
    | false =>
      refine decide_eq_false ?_
      rintro ⟨d', w', h1', h2', h3'⟩
      have := h2.inj h2'
      subst this
      exact absurd (eqN_det I rs EQN h1 h1' h2 h3 h3') (by simp)
  refine ⟨f, ?_, ?_⟩
  · intro y hy
    have : ∀ (ds : List D) (vs : List V) (is : List Value) (b : Bool), RVs X.K m H ds vs → Vals vs is → anyEq st x ds = some b → y ∈ is → EqAt X.A.in1 s y u (f y) := by
      intro ds
      induction ds with
      | nil => intro vs is b r v e hy; simp only [RVs] at r; subst r; cases v; cases hy
      | cons d ds ih =>
        intro vs is b r v e hy
        simp only [RVs] at r
        obtain ⟨v0, vr, rfl, r0, r⟩ := r
        cases v with
        | cons rv0 rvr =>
          simp only [anyEq] at e
          split at e
          · rename_i b1 c e1 e2
            rcases List.mem_cons.mp hy with rfl | hy
            · rw [one r0 rv0 e1]
              exact (eqN_at I rs EQN (A := X.A.in1) (by unfold EQN; show X.A.units + 1 + 60 < cLine; omega) r0 hx rv0 ru e1).2
            · exact ih _ _ _ r rvr e2 hy
          · cases e
    exact this ds vs is b r v e hy
  · have : ∀ (ds : List D) (vs : List V) (is : List Value) (b : Bool), RVs X.K m H ds vs → Vals vs is → anyEq st x ds = some b → b = is.any f := by
      intro ds
      induction ds with
      | nil => intro vs is b r v e; simp only [RVs] at r; subst r; cases v; simp only [anyEq] at e; cases e; rfl
      | cons d ds ih =>
        intro vs is b r v e
        simp only [RVs] at r
        obtain ⟨v0, vr, rfl, r0, r⟩ := r
        cases v with
        | cons rv0 rvr =>
          simp only [anyEq] at e
          split at e
          · rename_i b1 c e1 e2
            cases e
            rw [List.any_cons, one r0 rv0 e1, ← ih _ _ _ r rvr e2]
          · cases e
    exact this ds vs is b r v e
theorem str_in_at {pins : List (Addr × Obj)} {σ : L2.St} {H : Hp} {s : Shared} {x y : V} {v u : Value} {Q : VK} {a b : Str} (I : Inv X pins σ H s) (rx : RelV x v) (ry : RelV y u) (hx : x = .str a) (hy : y = .str b) (q : Q (.bl (strIn a b)) H) : wpAny (model X.prog X.w) X.A (compareOp .In v u) (EP X pins σ Q) X.xe s := by
  subst hx hy
  unfold strIn at q
  split at q
  · rename_i hl
    have e : a = ⟨#[a.cps.getD 0 0]⟩ := by
      apply Str.ext'
      have hl' : a.cps.size = 1 := hl
      obtain ⟨c, hc⟩ := Array.size_eq_one_iff.mp hl'
      rw [hc]; rfl
    exact op_in_sign pins s σ H _ _ v u Q I rx ry ⟨a.cps.getD 0 0, b, by rw [← e], rfl, q⟩
  · exact op_in_str pins s σ H _ _ v u Q I rx ry ⟨a, b, rfl, rfl, q⟩
theorem str_notIn_at {pins : List (Addr × Obj)} {σ : L2.St} {H : Hp} {s : Shared} {x y : V} {v u : Value} {Q : VK} {a b : Str} (I : Inv X pins σ H s) (rx : RelV x v) (ry : RelV y u) (hx : x = .str a) (hy : y = .str b) (q : Q (.bl (!strIn a b)) H) : wpAny (model X.prog X.w) X.A (compareOp .NotIn v u) (EP X pins σ Q) X.xe s := by
  subst hx hy
  unfold strIn at q
  split at q
  · rename_i hl
    have e : a = ⟨#[a.cps.getD 0 0]⟩ := by
      apply Str.ext'
      have hl' : a.cps.size = 1 := hl
      obtain ⟨c, hc⟩ := Array.size_eq_one_iff.mp hl'
      rw [hc]; rfl
    exact op_notIn_sign pins s σ H _ _ v u Q I rx ry ⟨a.cps.getD 0 0, b, by rw [← e], rfl, q⟩
  · exact op_notIn_str pins s σ H _ _ v u Q I rx ry ⟨a, b, rfl, rfl, q⟩
theorem os_in (hu : X.A.units + 64 < cLine) : OpS X (compareOp .In) (opB inF) := by
  intro pins s σ H x y v u Q I rx ry h
  obtain ⟨m, st, dx, dy, rs, r1, r2, h⟩ := h
  cases q : inF dx dy st with
  | none => simp only [opB, q] at h; exact h.elim
  | some b =>
    simp only [opB, q, Option.map_some] at h
    have fin := h m H (.bl b) Ext.refl rs (by simp [RV])
    cases dy with
    | tup ds =>
      simp only [RV] at r2
      obtain ⟨a, vs, rfl, ha, r2⟩ := r2
      cases ry
      obtain ⟨its, rl, pl, hz⟩ := I.tuple ha
      obtain ⟨f, h1, h2⟩ := anyEq_at I rs hu r1 rx r2 rl q
      exact in_tupleAt f pl (fun y hy => h1 y (by simpa using hy)) ⟨.bl _, H, I, rfl, by rw [List.any_toArray, ← h2]; exact fin⟩
    | ref l =>
      simp only [RV] at r2
      obtain ⟨a, rfl, ha⟩ := r2
      cases ry
      simp only [inF] at q
      split at q
      · rename_i ds hs
        obtain ⟨vs, e1, e2⟩ := rs.lst ha hs
        obtain ⟨its, rl, pl, hz⟩ := I.list (SqL.of e1)
        obtain ⟨f, h1, h2⟩ := anyEq_at I rs hu r1 rx e2 rl q
        exact in_listAt f pl.isList (fun y hy => h1 y (by simpa using hy)) ⟨.bl _, H, I, rfl, by rw [List.any_toArray, ← h2]; exact fin⟩
      · cases q
    | str z =>
      cases dx with
      | str a =>
        simp only [RV] at r1 r2
        simp only [inF] at q
        cases q
        exact str_in_at I rx ry r1 r2 fin
      | _ => cases q
    | _ => cases q
theorem os_notIn (hu : X.A.units + 64 < cLine) : OpS X (compareOp .NotIn) (opB fun x y st => (inF x y st).map (!·)) := by
  intro pins s σ H x y v u Q I rx ry h
  obtain ⟨m, st, dx, dy, rs, r1, r2, h⟩ := h
  cases q : inF dx dy st with
  | none => simp only [opB, q] at h; exact h.elim
  | some b =>
    simp only [opB, q, Option.map_some] at h
    have fin := h m H (.bl (!b)) Ext.refl rs (by simp [RV])
    cases dy with
    | tup ds =>
      simp only [RV] at r2
      obtain ⟨a, vs, rfl, ha, r2⟩ := r2
      cases ry
      obtain ⟨its, rl, pl, hz⟩ := I.tuple ha
      obtain ⟨f, h1, h2⟩ := anyEq_at I rs hu r1 rx r2 rl q
      exact notIn_tupleAt f pl (fun y hy => h1 y (by simpa using hy)) ⟨.bl _, H, I, rfl, by rw [List.any_toArray, ← h2]; exact fin⟩
    | ref l =>
      simp only [RV] at r2
      obtain ⟨a, rfl, ha⟩ := r2
      cases ry
      simp only [inF] at q
      split at q
      · rename_i ds hs
        obtain ⟨vs, e1, e2⟩ := rs.lst ha hs
        obtain ⟨its, rl, pl, hz⟩ := I.list (SqL.of e1)
        obtain ⟨f, h1, h2⟩ := anyEq_at I rs hu r1 rx e2 rl q
        exact notIn_listAt f pl.isList (fun y hy => h1 y (by simpa using hy)) ⟨.bl _, H, I, rfl, by rw [List.any_toArray, ← h2]; exact fin⟩
      · cases q
    | str z =>
      cases dx with
      | str a =>
        simp only [RV] at r1 r2
        simp only [inF] at q
        cases q
        exact str_notIn_at I rx ry r1 r2 fin
      | _ => cases q
    | _ => cases q
end
end Mi
set_option Elab.async false
set_option linter.all false
set_option maxRecDepth 100000
set_option maxHeartbeats 4000000
/-! Mi9: calls of what is built in. -/
namespace Mi
open PySem PySem.Spec L2
open PyProof.Rows hiding St
section
variable {K : PySem.W.Frag} {m : List Addr} {H : Hp} {st : Store}
theorem rvs_nil {vs : List V} (h : RVs K m H [] vs) : vs = [] := by simpa only [RVs] using h
theorem rvs_1 {d : D} {vs : List V} (h : RVs K m H [d] vs) : ∃ v, vs = [v] ∧ RV K m H d v := by
  simp only [RVs] at h
  obtain ⟨v, vr, rfl, r, rfl⟩ := h
  exact ⟨v, rfl, r⟩
theorem rvs_2 {d e : D} {vs : List V} (h : RVs K m H [d, e] vs) : ∃ v w, vs = [v, w] ∧ RV K m H d v ∧ RV K m H e w := by
  simp only [RVs] at h
  obtain ⟨v, vr, rfl, r, w, wr, rfl, r2, rfl⟩ := h
  exact ⟨v, w, rfl, r, r2⟩
theorem RVs.strs : ∀ {zs : List Str} {vs : List V}, RVs K m H (zs.map D.str) vs ↔ vs = zs.map V.str
  | [], vs => by simp [RVs]
  | z :: zs, vs => by
    simp only [List.map_cons, RVs, RV]
    constructor
    · rintro ⟨v, vr, rfl, rfl, h⟩; rw [RVs.strs.mp h]
    · rintro rfl; exact ⟨_, _, rfl, rfl, RVs.strs.mpr rfl⟩
theorem RVs.bls : ∀ {zs : List Bool} {vs : List V}, RVs K m H (zs.map D.bl) vs ↔ vs = zs.map V.bl
  | [], vs => by simp [RVs]
  | z :: zs, vs => by
    simp only [List.map_cons, RVs, RV]
    constructor
    · rintro ⟨v, vr, rfl, rfl, h⟩; rw [RVs.bls.mp h]
    · rintro rfl; exact ⟨_, _, rfl, rfl, RVs.bls.mpr rfl⟩
end
/-- all of them texts -/
def strsOf : List D → Option (List Str)
  | [] => some []
  | .str z :: ds => (strsOf ds).map (z :: ·)
  | _ :: _ => none
theorem strsOf_eq : ∀ {ds : List D} {zs : List Str}, strsOf ds = some zs → ds = zs.map D.str
  | [], zs, h => by cases h; rfl
  | d :: ds, zs, h => by
    cases d with
    | str z =>
      simp only [strsOf] at h
      obtain ⟨zr, e, rfl⟩ := Option.map_eq_some_iff.mp h
      rw [strsOf_eq e]; rfl
    | _ => cases h
theorem strsOf_map : ∀ (zs : List Str), strsOf (zs.map D.str) = some zs
  | [] => rfl
  | z :: zs => by simp only [List.map_cons, strsOf, strsOf_map zs, Option.map_some]
def blsOf : List D → Option (List Bool)
  | [] => some []
  | .bl z :: ds => (blsOf ds).map (z :: ·)
  | _ :: _ => none
theorem blsOf_eq : ∀ {ds : List D} {zs : List Bool}, blsOf ds = some zs → ds = zs.map D.bl
  | [], zs, h => by cases h; rfl
  | d :: ds, zs, h => by
    cases d with
    | bl z =>
      simp only [blsOf] at h
      obtain ⟨zr, e, rfl⟩ := Option.map_eq_some_iff.mp h
      rw [blsOf_eq e]; rfl
    | _ => cases h
theorem blsOf_map : ∀ (zs : List Bool), blsOf (zs.map D.bl) = some zs
  | [] => rfl
  | z :: zs => by simp only [List.map_cons, blsOf, blsOf_map zs, Option.map_some]
abbrev CF := List D → Store → Option (D × Store)
abbrev MF := D → List D → Store → Option (D × Store)
def lenF : CF := fun xs st => match xs with
  | [.str z] => if z.length ≤ LIM then some (.int z.length, st) else none
  | [.tup ds] => some (.int ds.length, st)
  | [.scr ns] => some (.int ns.length, st)
  | [.ref l] => match st[l]? with
    | some (.lst ds) => some (.int ds.length, st)
    | some (.dic kvs) => some (.int kvs.length, st)
    | _ => none
  | _ => none
def listF : CF := fun xs st => match xs with
  | [.tup ds] => alloc (.lst ds) st
  | [.scr ns] => alloc (.lst (ns.map .int)) st
  | [.ref l] => match st[l]? with
    | some (.lst ds) => alloc (.lst ds) st
    | _ => none
  | _ => none
def tupleF : CF := fun xs st => match xs with
  | [.tup ds] => some (.tup ds, st)
  | [.ref l] => match st[l]? with
    | some (.lst ds) => some (.tup ds, st)
    | _ => none
  | _ => none
def strF : CF := fun xs st => match xs with
  | [.int i] => if i.natAbs.log2 < 1920 then some (.str (toString i), st) else none
  | _ => none
def intF : CF := fun xs st => match xs with
  | [.str z] => if z.length ≤ 640 then (PySem.intText? z).map fun n => (.int n, st) else none
  | _ => none
def maxF : CF := fun xs st => match xs with
  | [.int i, .int j] => some (.int (if j > i then j else i), st)
  | _ => none
def minF : CF := fun xs st => match xs with
  | [.int i, .int j] => some (.int (if j < i then j else i), st)
  | _ => none
def allF : CF := fun xs st => match xs with
  | [.ref l] => match st[l]? with
    | some (.lst ds) => (blsOf ds).map fun bs => (.bl (bs.all id), st)
    | _ => none
  | _ => none
def anyF : CF := fun xs st => match xs with
  | [.ref l] => match st[l]? with
    | some (.lst ds) => (blsOf ds).map fun bs => (.bl (bs.any id), st)
    | _ => none
  | _ => none
def appF : MF := fun x xs st => match x, xs with
  | .ref l, [d] => match st[l]? with
    | some (.lst ds) => if ds.length < LIM then some (.non, st.set l (.lst (ds ++ [d]))) else none
    | _ => none
  | _, _ => none
def popF : MF := fun x xs st => match x, xs with
  | .ref l, [] => match st[l]? with
    | some (.lst ds) => ds.getLast?.map fun d => (d, st.set l (.lst ds.dropLast))
    | _ => none
  | _, _ => none
def joinF : MF := fun x xs st => match x, xs with
  | .str z, [.ref l] => match st[l]? with
    | some (.lst ds) => (strsOf ds).bind fun ys => if (ys.map (·.length)).sum + ys.length * z.length ≤ LIM then some (.str (Txt.join z ys), st) else none
    | _ => none
  | .str z, [.tup ds] => (strsOf ds).bind fun ys => if (ys.map (·.length)).sum + ys.length * z.length ≤ LIM then some (.str (Txt.join z ys), st) else none
  | _, _ => none
def splitF : MF := fun x xs st => match x, xs with
  | .str a, [.str b] => if (b.length == 0) = false ∧ a.length + 2 ≤ LIM then alloc (.lst ((Txt.split a b).map .str)) st else none
  | _, _ => none
def upperF : MF := fun x xs st => match x, xs with
  | .str a, [] => if a.length ≤ 5592405 then some (.str (Txt.upper a), st) else none
  | _, _ => none
def find3F : MF := fun x xs st => match x, xs with
  | .str a, [.str b, .int i] => some (.int (Txt.find3 a b i), st)
  | _, _ => none
section
variable {X : Cx}
theorem cs_len : CallS X (.builtin "len") lenF := by
  intro pins s σ H xs us Q I r q
  obtain ⟨m, st, ds, rs, r0, q⟩ := q
  match ds, q with
  | [.str z], q =>
    obtain ⟨v, rfl, r1⟩ := rvs_1 r0
    simp only [RV] at r1
    subst r1
    simp only [lenF] at q
    split at q
    · rename_i hz
      exact call_len pins s σ H _ us Q I r ⟨_, _, rfl, ⟨ofLim hz, rfl⟩, q m H _ Ext.refl rs (by simp [RV])⟩
    · exact q.elim
  | [.tup ds], q =>
    obtain ⟨v, rfl, r1⟩ := rvs_1 r0
    simp only [RV] at r1
    obtain ⟨p, vs, rfl, h1, h2⟩ := r1
    exact call_len pins s σ H _ us Q I r ⟨_, _, rfl, .inr ⟨vs, h1, rfl⟩, q m H _ Ext.refl rs (by simp [RV, h2.len])⟩
  | [.scr ns], q =>
    obtain ⟨v, rfl, r1⟩ := rvs_1 r0
    simp only [RV] at r1
    obtain ⟨p, rfl, h1⟩ := r1
    exact call_len pins s σ H _ us Q I r ⟨_, _, rfl, .inl ⟨_, h1.seq, rfl⟩, q m H _ Ext.refl rs (by simp [RV])⟩
  | [.ref l], q =>
    obtain ⟨v, rfl, r1⟩ := rvs_1 r0
    simp only [RV] at r1
    obtain ⟨p, rfl, h1⟩ := r1
    simp only [lenF] at q
    split at q
    · rename_i ds ho
      obtain ⟨vs, e1, e2⟩ := rs.lst h1 ho
      exact call_len pins s σ H _ us Q I r ⟨_, _, rfl, .inl ⟨_, SqL.of e1, rfl⟩, q m H _ Ext.refl rs (by simp [RV, e2.len])⟩
    · rename_i kvs ho
      obtain ⟨ws, e1, e2⟩ := rs.dic h1 ho
      exact call_lenD pins s σ H _ us Q I r ⟨_, _, rfl, e1, q m H _ Ext.refl rs (by simp [RV, e2.length])⟩
    · exact q.elim
theorem cs_list : CallS X (.type "list") listF := by
  intro pins s σ H xs us Q I r q
  obtain ⟨m, st, ds, rs, r0, q⟩ := q
  match ds, q with
  | [.tup ds], q =>
    obtain ⟨v, rfl, r1⟩ := rvs_1 r0
    simp only [RV] at r1
    obtain ⟨p, vs, rfl, h1, h2⟩ := r1
    exact call_list_of pins s σ H _ us Q I r ⟨_, _, rfl, .inr h1, fun p hp => postO_lst rs q hp h2⟩
  | [.scr ns], q =>
    obtain ⟨v, rfl, r1⟩ := rvs_1 r0
    simp only [RV] at r1
    obtain ⟨p, rfl, h1⟩ := r1
    exact call_list_of pins s σ H _ us Q I r ⟨_, _, rfl, .inl h1.seq, fun p hp => postO_lst rs q hp (RVs.ints.mpr rfl)⟩
  | [.ref l], q =>
    obtain ⟨v, rfl, r1⟩ := rvs_1 r0
    simp only [RV] at r1
    obtain ⟨p, rfl, h1⟩ := r1
    simp only [listF] at q
    split at q
    · rename_i ds ho
      obtain ⟨vs, e1, e2⟩ := rs.lst h1 ho
      exact call_list_of pins s σ H _ us Q I r ⟨_, _, rfl, .inl (SqL.of e1), fun p hp => postO_lst rs q hp e2⟩
    · exact q.elim
theorem cs_tuple : CallS X (.type "tuple") tupleF := by
  intro pins s σ H xs us Q I r q
  obtain ⟨m, st, ds, rs, r0, q⟩ := q
  match ds, q with
  | [.tup ds], q =>
    obtain ⟨v, rfl, r1⟩ := rvs_1 r0
    have r1' := r1
    simp only [RV] at r1
    obtain ⟨p, vs, rfl, h1, h2⟩ := r1
    exact call_tuple_of pins s σ H _ us Q I r ⟨_, _, rfl, .inr ⟨h1, q m H _ Ext.refl rs r1'⟩⟩
  | [.ref l], q =>
    obtain ⟨v, rfl, r1⟩ := rvs_1 r0
    simp only [RV] at r1
    obtain ⟨p, rfl, h1⟩ := r1
    simp only [tupleF] at q
    split at q
    · rename_i ds ho
      obtain ⟨vs, e1, e2⟩ := rs.lst h1 ho
      exact call_tuple_of pins s σ H _ us Q I r ⟨_, _, rfl, .inl ⟨SqL.of e1, fun p hp => postO_tup rs q hp e2⟩⟩
    · exact q.elim
theorem cs_str : CallS X (.type "str") strF := by
  intro pins s σ H xs us Q I r q
  obtain ⟨m, st, ds, rs, r0, q⟩ := q
  match ds, q with
  | [.int i], q =>
    obtain ⟨v, rfl, r1⟩ := rvs_1 r0
    simp only [RV] at r1
    subst r1
    simp only [strF] at q
    split at q
    · rename_i hz
      exact call_str_int pins s σ H _ us Q I r ⟨_, rfl, hz, q m H _ Ext.refl rs (by simp [RV])⟩
    · exact q.elim
theorem cs_int : CallS X (.type "int") intF := by
  intro pins s σ H xs us Q I r q
  obtain ⟨m, st, ds, rs, r0, q⟩ := q
  match ds, q with
  | [.str z], q =>
    obtain ⟨v, rfl, r1⟩ := rvs_1 r0
    simp only [RV] at r1
    subst r1
    simp only [intF] at q
    split at q
    · rename_i hz
      cases e : PySem.intText? z with
      | none => rw [e] at q; exact q.elim
      | some n =>
        rw [e] at q
        exact call_int_str pins s σ H _ us Q I r ⟨_, n, rfl, e, hz, q m H _ Ext.refl rs (by simp [RV])⟩
    · exact q.elim
theorem cs_max (hc : X.calm = true) : CallS X (.builtin "max") maxF := by
  intro pins s σ H xs us Q I r q
  obtain ⟨m, st, ds, rs, r0, q⟩ := q
  match ds, q with
  | [.int i, .int j], q =>
    obtain ⟨v, w, rfl, r1, r2⟩ := rvs_2 r0
    simp only [RV] at r1 r2
    subst r1; subst r2
    exact call_max2 hc pins s σ H _ us Q I r ⟨_, _, rfl, q m H _ Ext.refl rs (by simp [RV])⟩
theorem cs_min (hc : X.calm = true) : CallS X (.builtin "min") minF := by
  intro pins s σ H xs us Q I r q
  obtain ⟨m, st, ds, rs, r0, q⟩ := q
  match ds, q with
  | [.int i, .int j], q =>
    obtain ⟨v, w, rfl, r1, r2⟩ := rvs_2 r0
    simp only [RV] at r1 r2
    subst r1; subst r2
    exact call_min2 hc pins s σ H _ us Q I r ⟨_, _, rfl, q m H _ Ext.refl rs (by simp [RV])⟩
theorem cs_all (hc : X.calm = true) : CallS X (.builtin "all") allF := by
  intro pins s σ H xs us Q I r q
  obtain ⟨m, st, ds, rs, r0, q⟩ := q
  match ds, q with
  | [.ref l], q =>
    obtain ⟨v, rfl, r1⟩ := rvs_1 r0
    simp only [RV] at r1
    obtain ⟨p, rfl, h1⟩ := r1
    simp only [allF] at q
    split at q
    · rename_i ds ho
      cases e : blsOf ds with
      | none => rw [e] at q; exact q.elim
      | some bs =>
        rw [e] at q
        have := blsOf_eq e
        subst this
        obtain ⟨vs, e1, e2⟩ := rs.lst h1 ho
        rw [RVs.bls] at e2
        subst e2
        exact cr_all hc pins s σ H _ us Q I r ⟨_, bs, rfl, SqL.of e1, q m H _ Ext.refl rs (by simp [RV])⟩
    · exact q.elim
theorem cs_any (hc : X.calm = true) : CallS X (.builtin "any") anyF := by
  intro pins s σ H xs us Q I r q
  obtain ⟨m, st, ds, rs, r0, q⟩ := q
  match ds, q with
  | [.ref l], q =>
    obtain ⟨v, rfl, r1⟩ := rvs_1 r0
    simp only [RV] at r1
    obtain ⟨p, rfl, h1⟩ := r1
    simp only [anyF] at q
    split at q
    · rename_i ds ho
      cases e : blsOf ds with
      | none => rw [e] at q; exact q.elim
      | some bs =>
        rw [e] at q
        have := blsOf_eq e
        subst this
        obtain ⟨vs, e1, e2⟩ := rs.lst h1 ho
        rw [RVs.bls] at e2
        subst e2
        exact cr_any hc pins s σ H _ us Q I r ⟨_, bs, rfl, SqL.of e1, q m H _ Ext.refl rs (by simp [RV])⟩
    · exact q.elim
theorem ms_append : MtS X "list.append" appF := by
  intro pins s σ H x xs v us Q I rx r q
  obtain ⟨m, st, dx, ds, rs, r1, r0, q⟩ := q
  match dx, ds, q with
  | .ref l, [d], q =>
    obtain ⟨w, rfl, r2⟩ := rvs_1 r0
    simp only [RV] at r1
    obtain ⟨p, rfl, h1⟩ := r1
    simp only [appF] at q
    split at q
    · rename_i ds ho
      split at q
      · rename_i hz
        obtain ⟨vs, e1, e2⟩ := rs.lst h1 ho
        have e0 : Ext0 m H m (upd H p (.lst (vs ++ [w]))) := ext0_over e1 tf_no_lst
        exact mt_append pins s σ H _ _ v us Q I rx r ⟨_, vs, w, rfl, rfl, e1, by rw [← e2.len, lim_eq]; exact hz, postO_write rs q h1 ⟨_, upd_same, (RVs.ext0 e0 _ e2).append (RVs.one (RV.ext0 e0 _ r2))⟩ (by simp [RV])⟩
      · exact q.elim
    · exact q.elim
theorem ms_pop : MtS X "list.pop" popF := by
  intro pins s σ H x xs v us Q I rx r q
  obtain ⟨m, st, dx, ds, rs, r1, r0, q⟩ := q
  match dx, ds, q with
  | .ref l, [], q =>
    have := rvs_nil r0
    subst this
    simp only [RV] at r1
    obtain ⟨p, rfl, h1⟩ := r1
    simp only [popF] at q
    split at q
    · rename_i ds ho
      cases e : ds.getLast? with
      | none => rw [e] at q; exact q.elim
      | some d =>
        rw [e] at q
        obtain ⟨vs, e1, e2⟩ := rs.lst h1 ho
        rw [List.getLast?_eq_getElem?] at e
        obtain ⟨w, e3, e4⟩ := e2.get e
        rw [e2.len] at e3
        have e0 : Ext0 m H m (upd H p (.lst vs.dropLast)) := ext0_over e1 tf_no_lst
        exact mt_pop pins s σ H _ _ v us Q I rx r ⟨_, vs, w, rfl, rfl, e1, e3, postO_write rs q h1 ⟨_, upd_same, (RVs.ext0 e0 _ e2).dropLast⟩ (RV.ext0 e0 _ e4)⟩
    · exact q.elim
theorem ms_join : MtS X "str.join" joinF := by
  intro pins s σ H x xs v us Q I rx r q
  obtain ⟨m, st, dx, ds, rs, r1, r0, q⟩ := q
  match dx, ds, q with
  | .str z, [.ref l], q =>
    obtain ⟨w, rfl, r2⟩ := rvs_1 r0
    simp only [RV] at r1 r2
    subst r1
    obtain ⟨p, rfl, h1⟩ := r2
    simp only [joinF] at q
    split at q
    · rename_i ds ho
      cases e : strsOf ds with
      | none => rw [e] at q; exact q.elim
      | some ys =>
        rw [e] at q
        simp only [Option.bind_some] at q
        split at q
        · rename_i hz
          have := strsOf_eq e
          subst this
          obtain ⟨vs, e1, e2⟩ := rs.lst h1 ho
          rw [RVs.strs] at e2
          subst e2
          exact mt_join pins s σ H _ _ v us Q I rx r ⟨z, p, ys, rfl, rfl, .inl (SqL.of e1), hz, q m H _ Ext.refl rs (by simp [RV])⟩
        · exact q.elim
    · exact q.elim
  | .str z, [.tup ds], q =>
    obtain ⟨w, rfl, r2⟩ := rvs_1 r0
    simp only [RV] at r1 r2
    subst r1
    obtain ⟨p, vs, rfl, h1, h2⟩ := r2
    simp only [joinF] at q
    cases e : strsOf ds with
    | none => rw [e] at q; exact q.elim
    | some ys =>
      rw [e] at q
      simp only [Option.bind_some] at q
      split at q
      · rename_i hz
        have := strsOf_eq e
        subst this
        rw [RVs.strs] at h2
        subst h2
        exact mt_join pins s σ H _ _ v us Q I rx r ⟨z, p, ys, rfl, rfl, .inr h1, hz, q m H _ Ext.refl rs (by simp [RV])⟩
      · exact q.elim
theorem ms_split : MtS X "str.split" splitF := by
  intro pins s σ H x xs v us Q I rx r q
  obtain ⟨m, st, dx, ds, rs, r1, r0, q⟩ := q
  match dx, ds, q with
  | .str a, [.str b], q =>
    obtain ⟨w, rfl, r2⟩ := rvs_1 r0
    simp only [RV] at r1 r2
    subst r1; subst r2
    simp only [splitF] at q
    split at q
    · rename_i hz
      exact mt_split pins s σ H _ _ v us Q I rx r ⟨a, b, rfl, rfl, hz.1, ofLim hz.2, fun p hp => postO_lst rs q hp (RVs.strs.mpr rfl)⟩
    · exact q.elim
theorem ms_upper : MtS X "str.upper" upperF := by
  intro pins s σ H x xs v us Q I rx r q
  obtain ⟨m, st, dx, ds, rs, r1, r0, q⟩ := q
  match dx, ds, q with
  | .str a, [], q =>
    have := rvs_nil r0
    subst this
    simp only [RV] at r1
    subst r1
    simp only [upperF] at q
    split at q
    · rename_i hz
      exact mt_upper pins s σ H _ _ v us Q I rx r ⟨a, rfl, rfl, hz, q m H _ Ext.refl rs (by simp [RV])⟩
    · exact q.elim
theorem ms_find3 : MtS X "str.find" find3F := by
  intro pins s σ H x xs v us Q I rx r q
  obtain ⟨m, st, dx, ds, rs, r1, r0, q⟩ := q
  match dx, ds, q with
  | .str a, [.str b, .int i], q =>
    obtain ⟨w, w2, rfl, r2, r3⟩ := rvs_2 r0
    simp only [RV] at r1 r2 r3
    subst r1; subst r2; subst r3
    exact mt_find3 pins s σ H _ _ v us Q I rx r ⟨a, b, i, rfl, rfl, q m H _ Ext.refl rs (by simp [RV])⟩
end
end Mi
set_option Elab.async false
set_option linter.all false
set_option maxRecDepth 100000
set_option maxHeartbeats 4000000
/-! Mi10: products, slices turned about, kinds, constants of the text. -/
namespace Mi
open PySem PySem.Spec L2
open PyProof.Rows hiding St

/-! ### products -/
section
variable {X : Cx}
theorem rep_str (n : Nat) (a : Array Nat) : (List.replicate n a).foldl (· ++ ·) #[] = (List.replicate n a.toList).flatten.toArray := by
  have key : ∀ (n : Nat) (b : Array Nat), (List.replicate n a).foldl (· ++ ·) b = b ++ (List.replicate n a.toList).flatten.toArray := by
    intro n
    induction n with
    | zero => intro b; simp
    | succ n ih =>
      intro b
      rw [List.replicate_succ, List.foldl_cons, ih, List.replicate_succ, List.flatten_cons]
      apply Array.ext'
      simp
  rw [key]
  apply Array.ext'
  simp
theorem tuple_mulA (l : Addr) (items : Array Value) (n : Nat) (dd : Option Addr) (sl : Array (Option Value)) (x : Int) (u : Tok) (c0 : (decide (x < -(2 ^ 63)) || decide (x ≥ 2 ^ 63)) = false) (c1 : (items.isEmpty || x == 1) = true) :
    Meets (Builtin.«tuple.__mul__» ⟨[.ref l, .int x u], []⟩) (fun _ R s => s.heap.get? l = some { cls := .type "tuple", dict := dd, data := .seq items n, slots := sl } ∧ R (.ok (.ret (Value.ref l))) s) :=
  .of_wp fun prog w A R s h => by
    obtain ⟨hp, g, d, tk, os⟩ := s
    obtain ⟨hl, h⟩ := h
    have f1 := AutoSeq1.idx_int
    wp_walk using PySem.AutoSeq1.wpAny_loadPart' hl
    repeat (first
      | (refine wpAny_ite_false (decide_eq_false (by rw [c0]; exact Bool.false_ne_true)) ?_; wp_walk using PySem.AutoSeq1.wpAny_loadPart' hl)
      | (refine wpAny_ite_true (decide_eq_true c1) ?_; wp_walk using PySem.AutoSeq1.wpAny_loadPart' hl))
    exact ⟨_, rfl, h⟩
theorem tuple_mul0 (l : Addr) (items : Array Value) (n : Nat) (dd : Option Addr) (sl : Array (Option Value)) (u : Tok) (c1 : (items.isEmpty || (0 : Int) == 1) = false) :
    Meets (Builtin.«tuple.__mul__» ⟨[.ref l, .int 0 u], []⟩) (fun _ R s => s.heap.get? l = some { cls := .type "tuple", dict := dd, data := .seq items n, slots := sl } ∧
      R (.ok (.ret (Value.ref s.heap.objs.size))) { s with heap := s.heap.push { cls := Value.type "tuple", data := Data.seq #[] }, toks := s.toks }) :=
  .of_wp fun prog w A R s h => by
    obtain ⟨hp, g, d, tk, os⟩ := s
    obtain ⟨hl, h⟩ := h
    have f1 := AutoSeq1.idx_int
    wp_walk using PySem.AutoSeq1.wpAny_loadPart' hl
    repeat (first
      | (refine wpAny_ite_false (decide_eq_false (by rw [c1]; exact Bool.false_ne_true)) ?_; wp_walk using PySem.AutoSeq1.wpAny_loadPart' hl)
      | (refine wpAny_ite_true (decide_eq_true (by simp)) ?_; wp_walk using PySem.AutoSeq1.wpAny_loadPart' hl))
    exact ⟨_, rfl, h⟩
theorem op_repT1 : OpR X (binaryOp .Mult) (fun x y H Q => ∃ l k xs, x = .ref l ∧ y = .int k ∧ SqT X.K H l xs ∧ (xs = [] ∨ k = 1) ∧ -(2 ^ 63) ≤ k ∧ k < 2 ^ 63 ∧ Q (.ref l) H) := by
  intro pins s σ H x y v u Q I rx ry h
  obtain ⟨l, k, xs, rfl, rfl, hT, hc1, h1, h2, q⟩ := h
  cases rx
  obtain ⟨t, rfl⟩ := ry
  obtain ⟨its, r, ⟨⟨cls, dd, data, sl⟩, ho, hc, n, hd⟩, hs⟩ := I.tuple hT
  simp only at hc hd
  subst hc hd
  have c0 : (decide (k < -(2 ^ 63)) || decide (k ≥ 2 ^ 63)) = false := by
    rw [decide_eq_false (by omega), decide_eq_false (by omega)] <;> rfl
  have c1 : (its.toArray.isEmpty || k == 1) = true := by
    rcases hc1 with rfl | rfl
    · cases r; rfl
    · simp
  exact wpAny_binaryOp_repeat_ref (T := "tuple") (U := "int") (by decide) ⟨_, ho, rfl⟩ (fun s' => typeIs_int s' k t) noFill_tuple_mul PySem.F.fills_int_mul PySem.F.slot_int_rmul repeat_tuple PySem.F.slot_int_index.lookup
    (call_meets PySem.F.slot_int_rmul (typeIs_int s k t) PySem.F.entry_int_rmul (PySem.F.args_int_rmul_2 _ _) (int_rmul_tuple k t l its.toArray n dd sl)
      ⟨ho, rfl, ⟨_, ho, rfl⟩, call_meets PySem.F.slot_tuple_mul ⟨_, ho, rfl⟩ PySem.F.entry_tuple_mul (PySem.F.args_tuple_mul_2 _ _) (tuple_mulA l its.toArray n dd sl k t c0 c1) ⟨ho, .ref l, H, I, rfl, q⟩⟩)
theorem op_repT0 : OpR X (binaryOp .Mult) (fun x y H Q => ∃ l xs, x = .ref l ∧ y = .int 0 ∧ SqT X.K H l xs ∧ xs ≠ [] ∧ ∀ p, H p = none → Q (.ref p) (upd H p (.tup []))) := by
  intro pins s σ H x y v u Q I rx ry h
  obtain ⟨l, xs, rfl, rfl, hT, hne, q⟩ := h
  cases rx
  obtain ⟨t, rfl⟩ := ry
  obtain ⟨its, r, ⟨⟨cls, dd, data, sl⟩, ho, hc, n, hd⟩, hs⟩ := I.tuple hT
  simp only at hc hd
  subst hc hd
  have hi : its.toArray.isEmpty = false := by
    cases r with
    | nil => exact absurd rfl hne
    | cons _ _ => rfl
  refine wpAny_binaryOp_repeat_ref (T := "tuple") (U := "int") (by decide) ⟨_, ho, rfl⟩ (fun s' => typeIs_int s' 0 t) noFill_tuple_mul PySem.F.fills_int_mul PySem.F.slot_int_rmul repeat_tuple PySem.F.slot_int_index.lookup
    (call_meets PySem.F.slot_int_rmul (typeIs_int s 0 t) PySem.F.entry_int_rmul (PySem.F.args_int_rmul_2 _ _) (int_rmul_tuple 0 t l its.toArray n dd sl)
      ⟨ho, rfl, ⟨_, ho, rfl⟩, call_meets PySem.F.slot_tuple_mul ⟨_, ho, rfl⟩ PySem.F.entry_tuple_mul (PySem.F.args_tuple_mul_2 _ _) (tuple_mul0 l its.toArray n dd sl t (by rw [hi]; rfl)) ⟨ho, ?_⟩⟩)
  refine ⟨.ref s.heap.objs.size, _, I.laid (t' := s.toks) (o := .tup []) (fun b ob q => Heap.get?_push_of_some _ q) (Nat.le_refl _) ?_, rfl, q _ (I.hok.fresh (Nat.le_refl _))⟩
  exact ⟨Nat.zero_le _, [], .nil, IsTup.new _ _⟩
theorem os_mul : OpS X (binaryOp .Mult) mulF := by
  intro pins s σ H x y v u Q I rx ry q
  obtain ⟨m, st, dx, dy, rs, r1, r2, q⟩ := q
  cases dx with
  | int a =>
    cases dy with
    | int b =>
      simp only [RV] at r1 r2
      subst r1; subst r2
      simp only [mulF] at q
      split at q
      · rename_i hz
        exact op_mulW pins s σ H _ _ v u Q I rx ry ⟨a, b, rfl, rfl, hz, q m H _ Ext.refl rs (by simp [RV])⟩
      · exact q.elim
    | _ => exact q.elim
  | str a =>
    cases dy with
    | int n =>
      simp only [RV] at r1 r2
      subst r1; subst r2
      simp only [mulF] at q
      split at q
      · rename_i hz
        obtain ⟨h0, h1, h2⟩ := hz
        obtain ⟨t, rfl⟩ := rx
        obtain ⟨t', rfl⟩ := ry
        have q1 := q m H (.str ⟨(List.replicate n.toNat a.cps.toList).flatten.toArray⟩) Ext.refl rs (by simp [RV])
        have hlen : a.cps.toList.length = a.length := by simp [Str.length]
        refine PySem.P.mul_str ?_ (fun h3 _ => ?_) (fun h3 _ => ?_) ?_
        · rw [decide_eq_false (by omega), decide_eq_false (by omega)]; rfl
        · have e : ((a.length : Nat) : Int) * n ≤ 16777216 := by
            have : ((a.length * n.toNat : Nat) : Int) = (a.length : Int) * n := by rw [Int.natCast_mul, Int.toNat_of_nonneg h0]
            rw [← this]
            have h2' : a.length * n.toNat ≤ 16777216 := h2
            omega
          have hn1 : 1 ≤ n := by omega
          have e2 : (a.length : Int) ≤ 16777216 := by
            have : (a.length : Int) * 1 ≤ (a.length : Int) * n := Int.mul_le_mul_of_nonneg_left hn1 (by omega)
            omega
          have e3 : (16777216 : Int) ≤ (2 ^ 63 - 1) / n := by
            rw [Int.le_ediv_iff_mul_le (by omega)]
            have : (16777216 : Int) * n ≤ 16777216 * 1000000 := Int.mul_le_mul_of_nonneg_left h1 (by omega)
            omega
          omega
        · unfold Builtin.Str.tooLong
          have : a.length * n.toNat ≤ 16777216 := h2
          rw [sizeLine_eq]
          exact decide_eq_false (by omega)
        · by_cases c1 : n < 1
          · rw [if_pos c1]
            have : n.toNat = 0 := by omega
            rw [this] at q1
            exact ⟨by decide, .str _, H, I.tok _, ⟨_, rfl⟩, q1⟩
          · rw [if_neg c1]
            by_cases c2 : (n == 1 || a.length == 0) = true
            · rw [if_pos c2]
              rw [Bool.or_eq_true, beq_iff_eq, beq_iff_eq] at c2
              have e : (⟨(List.replicate n.toNat a.cps.toList).flatten.toArray⟩ : Str) = a := by
                rcases c2 with c2 | c2
                · subst c2
                  simp
                · have : a.cps.toList = [] := List.eq_nil_of_length_eq_zero (by rw [hlen]; exact c2)
                  have e2 : a.cps = #[] := by apply Array.ext'; simpa using this
                  obtain ⟨cps⟩ := a
                  simp only at e2
                  subst e2
                  simp
              rw [e] at q1
              exact ⟨.str a, H, I, ⟨t, rfl⟩, q1⟩
            · rw [if_neg c2, rep_str]
              refine ⟨?_, .str _, H, I.tok _, ⟨_, rfl⟩, q1⟩
              show (List.replicate n.toNat a.cps.toList).flatten.toArray.size ≤ sizeLine
              rw [List.size_toArray, PyProof.Rows.lm_len_rep_flat, hlen, Nat.mul_comm]
              exact ofLim h2
      · exact q.elim
    | _ => exact q.elim
  | tup a =>
    cases dy with
    | int n =>
      simp only [mulF] at q
      split at q
      · rename_i hz
        obtain ⟨h0, h1, h2⟩ := hz
        have r1' := r1
        simp only [RV] at r1 r2
        obtain ⟨p, vs, rfl, e1, e2⟩ := r1
        subst r2
        have hl := e2.len
        by_cases c1 : vs = [] ∨ n = 1
        · refine op_repT1 pins s σ H _ _ v u Q I rx ry ⟨p, n, vs, rfl, rfl, e1, c1, by omega, by omega, ?_⟩
          have e : (List.replicate n.toNat a).flatten = a := by
            rcases c1 with c1 | c1
            · have : a = [] := List.eq_nil_of_length_eq_zero (by rw [hl, c1]; rfl)
              subst this
              simp
            · subst c1; simp
          rw [e] at q
          exact q m H _ Ext.refl rs r1'
        · rw [not_or] at c1
          by_cases c2 : n = 0
          · subst c2
            exact op_repT0 pins s σ H _ _ v u Q I rx ry ⟨p, vs, rfl, rfl, e1, c1.1, fun p hp => postO_tup rs q hp (by simp [RVs])⟩
          · refine op_repT pins s σ H _ _ v u Q I rx ry ⟨p, n, vs, rfl, rfl, e1, c1.1, by omega, h1, by rw [← hl]; exact h2, fun p hp => postO_tup rs q hp ?_⟩
            generalize n.toNat = k
            induction k with
            | zero => simp [RVs]
            | succ k ih => rw [List.replicate_succ, List.replicate_succ, List.flatten_cons, List.flatten_cons]; exact e2.append ih
      · exact q.elim
    | _ => exact q.elim
  | ref l =>
    cases dy with
    | int n =>
      simp only [RV] at r1 r2
      obtain ⟨p, rfl, h1⟩ := r1
      subst r2
      simp only [mulF] at q
      split at q
      · rename_i ds ho
        split at q
        · rename_i hz
          obtain ⟨h0, h1', h2⟩ := hz
          obtain ⟨vs, e1, e2⟩ := rs.lst h1 ho
          refine op_rep pins s σ H _ _ v u Q I rx ry ⟨p, n, vs, rfl, rfl, e1, by omega, by omega, by rw [← e2.len]; exact ofLim h2, fun p hp => postO_lst rs q hp ?_⟩
          generalize n.toNat = k
          induction k with
          | zero => simp [RVs]
          | succ k ih => rw [List.replicate_succ, List.replicate_succ, List.flatten_cons, List.flatten_cons]; exact e2.append ih
        · exact q.elim
      · exact q.elim
    | _ => exact q.elim
  | _ => exact q.elim
end

/-! ### turned about -/
def revF (x : D) (st : Store) : Option (D × Store) := match x with
  | .tup ds => some (.tup ds.reverse, st)
  | .str z => if z.length ≤ LIM then some (.str ⟨z.cps.toList.reverse.toArray⟩, st) else none
  | .scr ns => alloc (.lst (ns.reverse.map .int)) st
  | .ref l => match st[l]? with
    | some (.lst ds) => alloc (.lst ds.reverse) st
    | _ => none
  | _ => none
section
variable {prog : Program} {w : World} {A : Around} {E : Value → Shared → Prop} {s : Shared}
theorem part_m1 {v : Value} {Q : Option Int → Shared → Prop} (p : IsPart v (some (-1))) (h : Q (some (-1)) s) : wpAny (model prog w) A (Builtin.Slice.slicePartIndex v) Q E s := HT.slicePart_ p h
theorem places_m1 (n : Nat) : Builtin.Slice.slicePlaces ((n : Int) - 1) (-1) (-1) = n := by
  unfold Builtin.Slice.slicePlaces
  have h1 : ¬ ((-1 : Int) > 0) := by omega
  simp only [h1, if_false]
  split
  · have : ((n : Int) - 1 - -1 - 1) / (- -1) + 1 = n := by
      rw [show (- -1 : Int) = 1 by decide, Int.ediv_one]
      omega
    rw [this]
    simp
  · omega
theorem applied_m1 {sl : Addr} {vl vu vs : Value} {n : Nat} {Q : Int × Int × Nat → Shared → Prop} (hs : s.heap.IsSliceOf sl vl vu vs) (pl : IsPart vl none) (pu : IsPart vu none) (ps : IsPart vs (some (-1)))
    (h : Q ((n : Int) - 1, -1, n) s) : wpAny (model prog w) A (Builtin.Slice.sliceApplied (.ref sl) (pure (n : Int))) Q E s := by
  obtain ⟨os, hos, hcs, hds⟩ := id hs
  unfold Builtin.Slice.sliceApplied Builtin.Slice.sliceFields
  refine wpAny_bind (wpAny_bind (wpAny_field hos hds (x := vl) rfl (wpAny_bind (wpAny_field hos hds (x := vu) rfl (wpAny_bind (wpAny_field hos hds (x := vs) rfl (wpAny_pure ?_)))))))
  refine wpAny_bind (part_m1 ps ?_)
  show wpAny _ _ (if ((-1 : Int) == 0) = true then _ else _) _ _ s
  rw [if_neg (by decide)]
  refine wpAny_bind (HT.slicePart_ pl (wpAny_bind (HT.slicePart_ pu (wpAny_bind (wpAny_pure ?_)))))
  have e : Builtin.Slice.sliceAdjust none none (-1) (n : Int) = ((n : Int) - 1, -1) := by
    unfold Builtin.Slice.sliceAdjust
    simp
  show wpAny _ _ (match Builtin.Slice.sliceAdjust none none (-1) (n : Int) with | (lo, hi) => pure (lo, (-1 : Int), Builtin.Slice.slicePlaces lo hi (-1))) _ _ s
  rw [e]
  show wpAny _ _ (pure ((n : Int) - 1, (-1 : Int), Builtin.Slice.slicePlaces ((n : Int) - 1) (-1) (-1))) _ _ s
  rw [places_m1]
  exact wpAny_pure h
theorem pick_m1 (xs : Array Value) : ((List.range xs.size).filterMap fun (m : Nat) => xs[((xs.size : Int) - 1 + (m : Int) * (-1)).toNat]?).toArray = xs.toList.reverse.toArray := by
  have e : (fun (m : Nat) => xs[((xs.size : Int) - 1 + (m : Int) * (-1)).toNat]?) = fun m => xs[xs.size - 1 - m]? := by
    funext m
    by_cases hm : m < xs.size
    · have : ((xs.size : Int) - 1 + (m : Int) * (-1)).toNat = xs.size - 1 - m := by omega
      rw [this]
    · have : ((xs.size : Int) - 1 + (m : Int) * (-1)).toNat = xs.size - 1 - m := by omega
      rw [this]
  rw [e]
  have := PySem.W.krv_pick xs
  unfold PySem.slicePick at this
  rw [PySem.W.krv_bounds] at this
  have h2 : ((sliceRange ((xs.size : Int) - 1) (-1) (-1)).filterMap (xs[·]?)).toArray = xs.toList.reverse.toArray := this
  rw [PySem.W.krv_sliceRange, List.filterMap_map] at h2
  exact h2
theorem getItem_tuple_m1 {t sl : Addr} {items : Array Value} {vl vu vs : Value} {Q : Value → Shared → Prop} (ht : IsTup s.heap t items) (hs : s.heap.IsSliceOf sl vl vu vs) (pl : IsPart vl none) (pu : IsPart vu none) (ps : IsPart vs (some (-1)))
    (h : Q (.ref s.heap.objs.size) { s with heap := s.heap.push { cls := .type "tuple", data := .seq items.toList.reverse.toArray } })
    (hsz : items.size ≤ sizeLine) : wpAny (model prog w) A (getItem (.ref t) (.ref sl)) Q E s := by
  have htake : sizeOk (.seq items.toList.reverse.toArray) := by
    show items.toList.reverse.toArray.size ≤ sizeLine
    rw [List.size_toArray, List.length_reverse, Array.length_toList]
    exact hsz
  obtain ⟨os, hos, hcs, hds⟩ := id hs
  have hTs : s.TypeIs (.ref sl) "slice" := ⟨os, hos, hcs⟩
  unfold getItem
  try with_reducible refine wpAny_holding ?_
  first | refine wpAny_bind (wpAny_pure ?_) | skip
  refine wpAny_bind (wpAny_sequenceKey ht.typeIs (by decide) ?_)
  refine wpAny_bind (wpAny_callSpecial?_slot (name := Str.ofString "__getitem__") ht.typeIs PyProof.Rows.slot_tuple_getitem
    (wpAny_call_entry PyProof.Rows.slot_tuple_getitem ht.typeIs PySem.F.entry_tuple_getitem ?_ (PySem.F.args_tuple_getitem_2 _ _)))
  show wpAny _ _ (Builtin.Tuple.tupleItemsOf (.ref t) >>= _) _ _ s
  refine wpAny_bind (PyProof.Rows.tupleItemsOf_ ht ?_)
  refine wpAny_bind (wpAny_typeOf hTs ?_)
  rw [if_pos (by decide)]
  refine wpAny_bind (applied_m1 hs pl pu ps ?_)
  have hno : ¬ ((((items.size : Int) - 1) == 0 && (-1 : Int) == 1 && items.size == items.size) = true) := by
    intro q
    rw [Bool.and_eq_true, Bool.and_eq_true] at q
    have := eq_of_beq q.1.2
    omega
  show wpAny _ _ (if (((items.size : Int) - 1) == 0 && (-1 : Int) == 1 && items.size == items.size) = true then _ else _) _ _ s
  rw [if_neg hno, pick_m1]
  first
    | exact wpAny_bind (m := Builtin.Tuple.tupleExact _) (wpAny_newObj_type (wpAny_pure ⟨_, rfl, wpAny_pure h⟩) htake)
    | exact wpAny_bind (m := Builtin.Tuple.tupleExact _) (wpAny_newObj_type (wpAny_bind (wpAny_pure (wpAny_pure ⟨_, rfl, wpAny_pure h⟩))) htake)
    | exact wpAny_bind (wpAny_bind (m := Builtin.Tuple.tupleExact _) (wpAny_newObj_type (wpAny_pure (wpAny_pure ⟨_, rfl, wpAny_pure h⟩)) htake))
    | exact wpAny_bind (wpAny_bind (m := Builtin.Tuple.tupleExact _) (wpAny_newObj_type (wpAny_pure ⟨_, rfl, wpAny_pure h⟩) htake))
end
end Mi
set_option Elab.async false
set_option linter.all false
set_option maxRecDepth 100000
set_option maxHeartbeats 4000000
/-! Mi11: turned about, kinds, constants of the text, texts of values. -/
namespace Mi
open PySem PySem.Spec L2
open PyProof.Rows hiding St
section
variable {cm : Str → Option Value} {W : WX} {X : Cx} {pos : Pos}
theorem RVs.rev_ints {K : PySem.W.Frag} {m : List Addr} {H : Hp} {ns : List Int} : RVs K m H (ns.reverse.map D.int) (ns.map V.int).reverse := by
  rw [← List.map_reverse]
  exact RVs.ints.mpr rfl
theorem de_rev {e : Expr} {fe : EF} {k : Nat} {p1 p2 p3 : Pos} (he : DE cm W X e fe) : DE cm W X (.Subscript e (.Slice none none (some (.UnaryOp .USub (.Constant (.int 1) k p1) p2)) p3) pos) (eUn revF fe) := by
  refine ⟨fun pins s σ H Q I h => ?_⟩
  obtain ⟨m, p, st, re, rs, h⟩ := h
  refine Subscript_ (thn (he.run pins s σ H _ I ⟨m, p, st, re, rs, Post.split h fun d st1 m1 H1 v e1 x1 rs1 r1 h1 => (⟨m1, st1, d, rs1, r1, PostO.of h1⟩ : ∃ m1 st1 d, RSt X.K m1 H1 st1 ∧ RV X.K m1 H1 d v ∧ PostO X.K (RV X.K) m1 H1 (revF d st1) Q)⟩) fun v s1 ⟨x, H1, I1, r1, q1⟩ => ?_)
  obtain ⟨m1, st1, d, rs1, rv, q⟩ := q1
  have hst : PO X (some (.UnaryOp .USub (.Constant (.int 1) k p1) p2)) (tPart (tUn (rU fun i => .int (-i)) (tC (.int 1)))) := po_some (pe_un un_neg pe_int)
  refine wpAny_Slice (thn (po_none.run pins s1 σ H1 (fun o H2 => o = none ∧ H2 = H1) I1 ⟨rfl, rfl⟩) fun vl s2 ⟨l, H2, I2, pl, el, e2⟩ => ?_)
  subst el e2
  refine thn (po_none.run pins s2 σ H2 (fun o H3 => o = none ∧ H3 = H2) I2 ⟨rfl, rfl⟩) fun vu s3 ⟨u, H3, I3, pu, eu, e3⟩ => ?_
  subst eu e3
  refine thn (hst.run pins s3 σ H3 (fun o H4 => o = some (-1) ∧ H4 = H3) I3 ⟨1, rfl, -1, rfl, rfl, rfl⟩) fun vs s4 ⟨o, H4, I4, ps, eo, e4⟩ => ?_
  subst eo e4
  have I5 : Inv X pins σ H4 { s4 with heap := s4.heap.push { cls := .type "slice", data := .fields #[vl, vu, vs] } } := I4.kept (t' := s4.toks) fun b ob q => Heap.get?_push_of_some _ q
  show wpAny (model X.prog X.w) X.A (subscriptTail e (.Slice none none (some (.UnaryOp .USub (.Constant (.int 1) k p1) p2)) p3) v (.ref s4.heap.objs.size)) (EP X pins σ Q) X.xe { s4 with heap := s4.heap.push { cls := .type "slice", data := .fields #[vl, vu, vs] } }
  have lst : ∀ {a : Addr} {xs : List V}, SqL X.K H4 a xs → (∀ p, H4 p = none → Q (.ref p) (upd H4 p (.lst xs.reverse))) →
      wpAny (model X.prog X.w) X.A (subscriptTail e (.Slice none none (some (.UnaryOp .USub (.Constant (.int 1) k p1) p2)) p3) (.ref a) (.ref s4.heap.objs.size)) (EP X pins σ Q) X.xe { s4 with heap := s4.heap.push { cls := .type "slice", data := .fields #[vl, vu, vs] } } := by
    intro a xs hx q
    obtain ⟨its, r, ht, hz⟩ := I5.list hx
    have hlen := r.length
    refine tail_any (ops := [.ref a, .ref s4.heap.objs.size]) ht.isList.typeIs (PySem.slot_list_getitem.lookup) ?_ (by with_unfolding_all rfl)
    refine wpAny_getItem_list_slice ht.isList (Heap.IsSliceOf.new _ vl vu vs) pl pu ps (by decide) ?_ (by rw [List.size_toArray]; omega)
    rw [PySem.W.krv_pick]
    refine ⟨.ref _, _, I5.laid (t' := s4.toks) (o := .lst xs.reverse) (fun b ob q => Heap.get?_push_of_some _ q) (Nat.le_refl _) ?_, rfl, q _ (I5.hok.fresh (Nat.le_refl _))⟩
    exact ⟨by rw [List.length_reverse]; exact hz, _, 0, r.reverse, Heap.get?_push_size _ rfl⟩
  cases d with
  | tup ds =>
    simp only [RV] at rv
    obtain ⟨a, xs, rfl, hx, rs2⟩ := rv
    cases r1
    obtain ⟨its, r, ht, hz⟩ := I5.tuple hx
    have hlen := r.length
    refine tail_any (ops := [.ref a, .ref s4.heap.objs.size]) ht.typeIs (PyProof.Rows.slot_tuple_getitem.lookup) ?_ (by with_unfolding_all rfl)
    refine getItem_tuple_m1 ht (Heap.IsSliceOf.new _ vl vu vs) pl pu ps ?_ (by rw [List.size_toArray]; omega)
    refine ⟨.ref _, _, I5.laid (t' := s4.toks) (o := .tup xs.reverse) (fun b ob q => Heap.get?_push_of_some _ q) (Nat.le_refl _) ?_, rfl, postO_tup rs1 q (I5.hok.fresh (Nat.le_refl _)) rs2.reverse⟩
    exact ⟨by rw [List.length_reverse]; exact hz, _, r.reverse, IsTup.new _ _⟩
  | str z =>
    simp only [RV] at rv
    subst rv
    obtain ⟨t, rfl⟩ := r1
    simp only [revF] at q
    split at q
    · rename_i hz
      obtain ⟨l', rfl, el⟩ := IsPart.raw pl
      obtain ⟨u', rfl, eu⟩ := IsPart.raw pu
      obtain ⟨t', rfl, et⟩ := IsPart.raw ps
      refine tail_any (ops := [.str z t, .ref s4.heap.objs.size]) (typeIs_str _ _ _) (PySem.F.slot_str_getitem.lookup) ?_ (by with_unfolding_all rfl)
      refine wpAny_getItem_str_slice (l := l') (u := u') (st := t') ⟨_, Heap.get?_push_size _ rfl, rfl, rfl⟩ (by rw [et]; rfl) ?_
      have q1 := q m1 H4 (.str ⟨z.cps.toList.reverse.toArray⟩) Ext.refl rs1 (by simp [RV])
      unfold PySem.sliceMade
      rw [et]
      rw [if_neg (by simp)]
      have ep : PySem.slicePicked z l' u' t' = (List.range z.length).map fun k => z.length - 1 - k := by
        unfold PySem.slicePicked
        rw [el, eu, et]
        unfold Builtin.Str.strSliceIndices
        exact PySem.W.krv_sliceRange z.length
      have e5 : ((PySem.slicePicked z l' u' t').filterMap (z.cps[·]?)).toArray = z.cps.toList.reverse.toArray := by
        rw [ep, PySem.W.krv_range, List.filterMap_reverse]
        have : (List.range z.length).filterMap (z.cps[·]?) = z.cps.toList := PySem.W.krv_all z.cps
        rw [this]
      rw [e5]
      refine ⟨?_, .str _, H4, I5.tok _, ⟨_, rfl⟩, q1⟩
      show z.cps.toList.reverse.toArray.size ≤ sizeLine
      rw [List.size_toArray, List.length_reverse, Array.length_toList]
      exact ofLim hz
    · exact q.elim
  | scr ns =>
    simp only [RV] at rv
    obtain ⟨a, rfl, hx⟩ := rv
    cases r1
    exact lst hx.seq fun p hp => postO_lst rs1 q hp RVs.rev_ints
  | ref l =>
    simp only [RV] at rv
    obtain ⟨a, rfl, hx⟩ := rv
    cases r1
    simp only [revF] at q
    split at q
    · rename_i ds ho
      obtain ⟨ws, e1, e2⟩ := rs1.lst hx ho
      exact lst (SqL.of e1) fun p hp => postO_lst rs1 q hp e2.reverse
    · exact q.elim
  | _ => exact q.elim

/-! ### kinds -/
def kindD (d : D) (st : Store) : Option String := match d with
  | .non => some "NoneType"
  | .bl _ => some "bool"
  | .int _ => some "int"
  | .str _ => some "str"
  | .tup _ => some "tuple"
  | .scr _ => some "list"
  | .exn .. => none
  | .ref l => match st[l]? with
    | some (.lst _) => some "list"
    | some (.dic _) => some "dict"
    | _ => none
theorem tyx_of {K : PySem.W.Frag} {m : List Addr} {H : Hp} {st : Store} {d : D} {v : V} {k : String} (rs : RSt K m H st) (r : RV K m H d v) (h : kindD d st = some k) : TyX K H v (.type k) := by
  cases d with
  | non => simp only [RV] at r; subst r; cases h; exact .base .non
  | bl b => simp only [RV] at r; subst r; cases h; exact .base (.bl b)
  | int i => simp only [RV] at r; subst r; cases h; exact .base (.int i)
  | str x => simp only [RV] at r; subst r; cases h; exact .base (.str x)
  | tup ds =>
    simp only [RV] at r
    obtain ⟨a, vs, rfl, hx, _⟩ := r
    cases h
    rcases hx with (hx | ⟨o, hx⟩) | ⟨o, its, n, hk, hc, _⟩
    · exact .base (.tup hx)
    · exact .fTuple hx
    · exact .kTuple hk hc
  | scr ns =>
    simp only [RV] at r
    obtain ⟨a, rfl, hx⟩ := r
    cases h
    rcases hx with ⟨o, hx⟩ | ⟨o, its, n, hk, hc, _⟩
    · exact .base (.frz hx)
    · exact .kList hk hc
  | exn => cases h
  | ref l =>
    simp only [RV] at r
    obtain ⟨a, rfl, hx⟩ := r
    simp only [kindD] at h
    split at h
    · rename_i ds ho
      cases h
      obtain ⟨vs, e1, _⟩ := rs.lst hx ho
      exact .base (.lst e1)
    · rename_i ds ho
      cases h
      obtain ⟨vs, e1, _⟩ := rs.dic hx ho
      exact .base (.dK e1)
    · cases h
def isiF (T : String) : D → Store → Option (D × Store) := fun x st => (kindD x st).bind fun k => (kitB k T).map fun b => (.bl b, st)
theorem de_isi {e : Expr} {fe : EF} {T : String} {x : Str} {pf pT : Pos} (he : DE cm W X e fe) (hg : Gl X "isinstance") (hm : X.mg "isinstance" = none) (hgT : Gl X x) (hmT : X.mg x = none) (hv : bootBuiltins x = some (.type T)) (hn : x ≠ "__name__" := by decide) (hdb : (x == ("__debug__" : Str)) = false := by decide)
    (he1 : starEach [e, .Name x pT] X.env = (false, eval e X.env) :: starEach [.Name x pT] X.env := by rfl) (he2 : starEach [.Name x pT] X.env = (false, eval (.Name x pT) X.env) :: starEach [] X.env := by rfl) (hpl : (backTo pos (starEach [.Name x pT] X.env)).any (·.1) = false := by rfl) :
    DE cm W X (.Call (.Name "isinstance" pf) [e, .Name x pT] [] pos) (eUn (isiF T) fe) :=
  peI (pe_callB call_isi hg hm (by decide +kernel) (pa_cons he (pa_cons (pe_bltn (v := .ty T) hgT hmT hv rfl hn hdb) pa_nil he2) he1) (by decide) (by decide) he1 hpl) fun s H Q h => by
    obtain ⟨m, p, st, re, rs, h⟩ := h
    refine ⟨m, p, st, re, rs, Post.split h fun d st1 m1 H1 v e1 x1 rs1 r1 h1 => ?_⟩
    have h1 := PostO.of h1
    unfold isiF at h1
    cases hk : kindD d st1 with
    | none => rw [hk] at h1; exact h1.elim
    | some k =>
      rw [hk] at h1
      cases hb : kitB k T with
      | none => rw [Option.bind_some, hb] at h1; exact h1.elim
      | some b =>
        rw [Option.bind_some, hb] at h1
        exact ⟨v, .ty T, .type k, .type T, b, rfl, .ty T, tyx_of rs1 r1 hk, kit_ty hb, h1 m1 H1 _ Ext.refl rs1 (by simp [RV])⟩

/-! ### what stands in the text's own part -/
def GV (K : PySem.W.Frag) (mg : Str → Option Value) (x : Str) (d : D) : Prop := ∃ u v, mg x = some u ∧ RelV v u ∧ ∀ m H, RV K m H d v
theorem de_glob {x : Str} {d : D} (g : GV X.K X.mg x d) (hg : Gl X x) (hd : (x == ("__debug__" : Str)) = false := by decide) : DE cm W X (.Name x pos) (eC d) := by
  obtain ⟨u, v, hm, r, h⟩ := g
  exact de_c (pe_glob hg hm r hd) h
theorem gv_int {K : PySem.W.Frag} {mg : Str → Option Value} {x : Str} {i : Int} {t : Tok} (h : mg x = some (.int i t)) : GV K mg x (.int i) := ⟨_, .int i, h, ⟨t, rfl⟩, fun _ _ => by simp [RV]⟩
theorem gv_str {K : PySem.W.Frag} {mg : Str → Option Value} {x : Str} {i : Str} {t : Tok} (h : mg x = some (.str i t)) : GV K mg x (.str i) := ⟨_, .str i, h, ⟨t, rfl⟩, fun _ _ => by simp [RV]⟩
theorem gv_strs {K : PySem.W.Frag} {mg : Str → Option Value} {x : Str} {a : Addr} {o : Obj} {its : Array Value} {n : Nat} {zs : List Str} (h : mg x = some (.ref a)) (hk : K.lookup a = some o) (hc : o.cls = .type "tuple") (hd : o.data = .seq its n) (hs : its.size ≤ 1000) (hz : Vals (zs.map V.str) its.toList) : GV K mg x (.tup (zs.map D.str)) :=
  ⟨_, .ref a, h, rfl, fun m H => by simp only [RV]; exact ⟨a, _, rfl, .inr ⟨o, its, n, hk, hc, hd, Nat.le_trans hs (ofLim (by decide)), hz⟩, RVs.strs.mpr rfl⟩⟩
end
end Mi
set_option Elab.async false
set_option linter.all false
set_option maxRecDepth 100000
set_option maxHeartbeats 4000000
/-! Mi12: whole values, and their texts. -/
namespace Mi
open PySem PySem.Spec L2
open PyProof.Rows hiding St
def keyP : Key → PyData
  | .inl i => .int i
  | .inr x => .str x
def datL (f : D → Option PyData) : List D → Option (List PyData)
  | [] => some []
  | d :: ds => (f d).bind fun t => (datL f ds).map (t :: ·)
def datK (f : D → Option PyData) : List (Key × D) → Option (List (PyData × PyData))
  | [] => some []
  | (k, d) :: ds => (f d).bind fun t => (datK f ds).map ((keyP k, t) :: ·)
/-- the whole value, at most n deep -/
def datN : Nat → Store → D → Option PyData
  | 0, _, _ => none
  | n + 1, st, d => match d with
    | .non => some .none
    | .bl b => some (.bool b)
    | .int i => some (.int i)
    | .str x => some (.str x)
    | .tup ds => (datL (datN n st) ds).map .tuple
    | .scr ns => some (.list (ns.map .int))
    | .exn .. => none
    | .ref l => match st[l]? with
      | some (.lst ds) => (datL (datN n st) ds).map .list
      | some (.dic kvs) => (datK (datN n st) kvs).map .dict
      | _ => none
theorem depth_ints' : ∀ ns : List Int, PyData.depthAll (ns.map .int) = 0
  | [] => rfl
  | n :: ns => by simp only [List.map_cons, PyData.depthAll, PyData.depth, depth_ints' ns]; rfl
section
variable {X : Cx} {pins : List (Addr × Obj)} {σ : L2.St} {H : Hp} {s : Shared} {m : List Addr} {st : Store}
theorem sys_list (hs : HasSys X.base) (I : Inv X pins σ H s) {a : Addr} {o : Obj} {vs : Array Value} {n : Nat} (e : s.heap.get? a = some o) (c : o.data = .seq vs n) : sysModules ≠ a := by
  rintro rfl
  obtain ⟨o', es, n', e1, c1⟩ := hs
  have := I.bk _ _ e1
  rw [e] at this
  cases this
  rw [c] at c1
  cases c1
theorem key_reads {P : Program} {w : World} {h : Heap} : ∀ (k : Key) (key : Value), (mixKind P w).is k key = true → Reads h key (keyP k) [] := by
  intro k key hk
  rw [mixKind_is] at hk
  rcases keyIs_shape hk with ⟨i, t, rfl, rfl⟩ | ⟨x, t, rfl, rfl⟩
  · exact .int _ _
  · exact .str _ _
theorem reads_ints {h : Heap} : ∀ {ns : List Int} {us : List Value}, Vals (ns.map V.int) us → ReadsAll h us (ns.map .int) []
  | [], us, r => by
    rw [List.map_nil] at r
    cases r
    exact .nil
  | n :: ns, us, r => by
    rw [List.map_cons] at r
    cases r with
    | cons r0 r =>
      obtain ⟨t, rfl⟩ := r0
      exact ReadsAll.cons (.int _ _) (reads_ints r)
/-- what reads_of says at one value -/
def RdOk (X : Cx) (H : Hp) (s : Shared) (m : List Addr) (st : Store) (n : Nat) : Prop :=
  ∀ (d : D) (v : V) (u : Value) (t : PyData), datN n st d = some t → RV X.K m H d v → RelV v u → ∃ as, Reads s.heap u t as ∧ t.depth ≤ n ∧ sysModules ∉ as
theorem reads_all {n : Nat} (ih : RdOk X H s m st n) : ∀ {ds : List D} {vs : List V} {us : List Value} {ts : List PyData}, datL (datN n st) ds = some ts → RVs X.K m H ds vs → Vals vs us → ∃ as, ReadsAll s.heap us ts as ∧ PyData.depthAll ts ≤ n ∧ sysModules ∉ as
  | [], vs, us, ts, e, rv, r => by
    simp only [RVs] at rv
    subst rv
    cases r
    cases e
    exact ⟨[], .nil, Nat.zero_le _, by simp⟩
  | d :: ds, vs, us, ts, e, rv, r => by
    simp only [RVs] at rv
    obtain ⟨v, vr, rfl, r0, rv⟩ := rv
    cases r with
    | cons q0 q =>
      simp only [datL] at e
      obtain ⟨t, e1, e⟩ := Option.bind_eq_some_iff.mp e
      obtain ⟨tr, e2, rfl⟩ := Option.map_eq_some_iff.mp e
      obtain ⟨as, h1, h2, h3⟩ := ih _ _ _ _ e1 r0 q0
      obtain ⟨bs, g1, g2, g3⟩ := reads_all ih e2 rv q
      refine ⟨as ++ bs, .cons h1 g1, ?_, ?_⟩
      · simp only [PyData.depthAll]; omega
      · simp only [List.mem_append, not_or]; exact ⟨h3, g3⟩
theorem reads_kvs {n : Nat} (ih : RdOk X H s m st n) : ∀ {kvs : List (Key × D)} {ws : List (Key × V)} {us : List (Key × Value)} {ts : List (PyData × PyData)}, datK (datN n st) kvs = some ts → RKs X.K m H kvs ws → KV ws us → ∃ as, PyProof.V.PairsRead s.heap keyP us ts as ∧ PyData.depthKv ts ≤ n ∧ sysModules ∉ as
  | [], ws, us, ts, e, rv, r => by
    have := rv.nil_inv
    subst this
    cases r
    cases e
    exact ⟨[], .nil, Nat.zero_le _, by simp⟩
  | (k, d) :: kvs, ws, us, ts, e, rv, r => by
    obtain ⟨v, wr, rfl, r0, rv⟩ := rv.inv
    cases r with
    | @cons _ q _ _ q0 q1 =>
      obtain ⟨k', u⟩ := q
      obtain ⟨ek, q0⟩ := q0
      simp only at ek q0
      subst ek
      simp only [datK] at e
      obtain ⟨t, e1, e⟩ := Option.bind_eq_some_iff.mp e
      obtain ⟨tr, e2, rfl⟩ := Option.map_eq_some_iff.mp e
      obtain ⟨as, h1, h2, h3⟩ := ih _ _ _ _ e1 r0 q0
      obtain ⟨bs, g1, g2, g3⟩ := reads_kvs ih e2 rv q1
      refine ⟨as ++ bs, .cons h1 g1, ?_, ?_⟩
      · have : (keyP k).depth = 0 := by cases k <;> rfl
        simp only [PyData.depthKv, this]; omega
      · simp only [List.mem_append, not_or]; exact ⟨h3, g3⟩
theorem reads_of (hs : HasSys X.base) (I : Inv X pins σ H s) (rs : RSt X.K m H st) : ∀ n, RdOk X H s m st n := by
  intro n
  induction n with
  | zero => intro d v u t e; cases e
  | succ n ih =>
    intro d v u t e rv r
    cases d with
    | non => simp only [RV] at rv; subst rv; cases e; cases r; exact ⟨[], .none, by simp [PyData.depth], by simp⟩
    | bl b => simp only [RV] at rv; subst rv; cases e; cases r; exact ⟨[], .bool _, by simp [PyData.depth], by simp⟩
    | int i => simp only [RV] at rv; subst rv; cases e; obtain ⟨t, rfl⟩ := r; exact ⟨[], .int _ _, by simp [PyData.depth], by simp⟩
    | str x => simp only [RV] at rv; subst rv; cases e; obtain ⟨t, rfl⟩ := r; exact ⟨[], .str _ _, by simp [PyData.depth], by simp⟩
    | tup ds =>
      simp only [RV] at rv
      obtain ⟨a, vs, rfl, hx, rv⟩ := rv
      cases r
      simp only [datN] at e
      obtain ⟨ts, e1, rfl⟩ := Option.map_eq_some_iff.mp e
      obtain ⟨its, q, ⟨o, g1, g2, k, g3⟩, _⟩ := I.tuple hx
      obtain ⟨as, h1, h2, h3⟩ := reads_all ih e1 rv q
      exact ⟨as, .tuple g1 g2 g3 (by simpa using h1), by simp only [PyData.depth]; omega, h3⟩
    | exn => cases e
    | scr ns =>
      simp only [RV] at rv
      obtain ⟨a, rfl, hx⟩ := rv
      cases r
      cases e
      obtain ⟨its, q, ⟨o, k, g1, g2, _, g3⟩, _⟩ := I.list hx.seq
      have h1 := reads_ints (h := s.heap) q
      refine ⟨[a], .list g1 g2 g3 (by simpa using h1), ?_, ?_⟩
      · have := depth_ints' ns
        simp only [PyData.depth, this]; omega
      · simp only [List.mem_singleton]; exact sys_list hs I g1 g3
    | ref l =>
      simp only [RV] at rv
      obtain ⟨a, rfl, hx⟩ := rv
      cases r
      simp only [datN] at e
      split at e
      · rename_i ds ho
        obtain ⟨ts, e1, rfl⟩ := Option.map_eq_some_iff.mp e
        obtain ⟨vs, f1, f2⟩ := rs.lst hx ho
        obtain ⟨its, q, ⟨o, k, g1, g2, _, g3⟩, _⟩ := I.list (SqL.of f1)
        obtain ⟨as, h1, h2, h3⟩ := reads_all ih e1 f2 q
        refine ⟨a :: as, .list g1 g2 g3 (by simpa using h1), by simp only [PyData.depth]; omega, ?_⟩
        simp only [List.mem_cons, not_or]
        exact ⟨sys_list hs I g1 g3, h3⟩
      · rename_i kvs ho
        obtain ⟨ts, e1, rfl⟩ := Option.map_eq_some_iff.mp e
        obtain ⟨ws, f1, f2⟩ := rs.dic hx ho
        obtain ⟨_, hne, us, q, dd⟩ := dk_of I.hok f1
        obtain ⟨as, h1, h2, h3⟩ := reads_kvs ih e1 f2 q
        refine ⟨a :: as, PyProof.V.reads_dictOf key_reads dd h1, by simp only [PyData.depth]; omega, ?_⟩
        simp only [List.mem_cons, not_or]
        exact ⟨fun e => by rw [← e] at hne; simp at hne, h3⟩
      · cases e
/-- repr(x) -/
def reprF : List D → Store → Option (D × Store) := fun xs st => match xs with
  | [d] => (datN 150 st d).bind fun t => if t.showable = true ∧ t.shown.length ≤ LIM then some (.str t.shown, st) else none
  | _ => none
theorem cs_repr (hs : HasSys X.base) (hu : X.A.units + 160 < cLine) (hg : X.A.guards = some []) : CallS X (.builtin "repr") reprF := by
  intro pins s σ H xs us Q I r q
  obtain ⟨m, st, ds, rs, r0, q⟩ := q
  match ds, q with
  | [d], q =>
    obtain ⟨v, rfl, r1⟩ := rvs_1 r0
    obtain ⟨u, rfl, ru⟩ := vals1 r
    simp only [reprF] at q
    cases e : datN 150 st d with
    | none => rw [e] at q; exact q.elim
    | some t =>
      rw [e, Option.bind_some] at q
      split at q
      · rename_i hz
        have hz2 := ofLim hz.2
        obtain ⟨as, h1, h2, h3⟩ := reads_of hs I rs 150 d v u t e r1 ru
        have q1 := q m H (.str t.shown) Ext.refl rs (by simp [RV])
        have rf : ∀ {a : Addr}, Reads s.heap (.ref a) t as → wpAny (model X.prog X.w) X.A (call (.builtin "repr") [.ref a]) (EP X pins σ Q) X.xe s := fun h1 =>
          repr_of_reads' h1 hz.1 (fun _ => h3) hg (by omega) (fun _ _ e => e) (fun h' u tk hk => ⟨.str t.shown, H, I.kept hk, ⟨_, rfl⟩, q1⟩) hz2
        have sh := hz.1
        cases h1 with
        | none => exact PySem.P.repr_of_none ⟨.str _, H, I.tok _, ⟨_, rfl⟩, q1⟩
        | bool b => exact PySem.P.repr_of_bool ⟨.str _, H, I.tok _, ⟨_, rfl⟩, q1⟩
        | int i tk => exact PySem.P.repr_of_int (by simpa [PyData.showable] using sh) ⟨.str _, H, I.tok _, ⟨_, rfl⟩, q1⟩
        | str x tk => exact PySem.P.repr_of_str ⟨.str _, H, I.tok _, ⟨_, rfl⟩, q1⟩ hz2
        | list a b c d => exact rf (.list a b c d)
        | tuple a b c d => exact rf (.tuple a b c d)
        | dict a b c d e2 => exact rf (.dict a b c d e2)
      · exact q.elim
end
end Mi
set_option Elab.async false
set_option linter.all false
set_option maxRecDepth 100000
set_option maxHeartbeats 4000000
/-! Mi13: what a law's derivations lean on. -/
namespace Mi
open PySem PySem.Spec L2
open PyProof.Rows hiding St
theorem takes0 {X : Cx} : Takes X W0 := fun u s' ⟨a, B, sI, pins, σ, H, cls, d, e, I, nb, up, sky, na, os, ag, w⟩ => w.elim
def notInF (x y : D) (st : Store) : Option Bool := (inF x y st).map (!·)
/-- the def of that name stands there -/
structure FF (K : PySem.W.Frag) (mg : Str → Option Value) (x : Str) (st : Stmt) (f : Addr) (fd : FuncData) : Prop where
  F : Fun K x x st f fd
  m : mg x = some (.ref f)
/-- no claim -/
def sBad : SF := fun _ _ => .bad
section
variable {cm : Str → Option Value} {W : WX} {X : Cx}
theorem ds_bad {t : Stmt} : DS cm W X t sBad := by
  refine ⟨fun pins s σ H D0 I h => ?_⟩
  obtain ⟨m, p, st, re, rs, h⟩ := h
  exact h.elim
end
section
variable {cm : Str → Option Value} {P : Program} {w : World} {K : PySem.W.Frag} {mg : Str → Option Value} {base : Heap}
theorem fnD_bad {x qual : Str} {st : Stmt} {f : Addr} {fd : FuncData} {ps : List Str} {k : Nat} (F : Fun K x qual st f fd) (hm : mg x = some (.ref f)) (bd : Binds K fd ps []) : FnD cm P w K mg base k x ps f fd (fun _ _ => .bad) :=
  ⟨⟨fun vs H Q E h => h.1, fun A outer s H args us vs Q E hg hr e0 hb r h => by
    obtain ⟨_, m, st, ds, _, _, h⟩ := h
    exact h.elim⟩, hm, F.kp, bd⟩
/-- a def as the top's facts show it -/
theorem ff_mk {h : Heap} {x : Str} {st : Stmt} {f : Addr} {od an : Option Addr} {sl : Array (Option Value)} {oc kV dc pm cd ct : Value} (X : K.In h) (G : h.Ns mainGlobals mg)
    (a : PySem.W.nsIn K mainGlobals x = some (some (.ref f))) (l : K.lookup f = some ⟨oc, od, .func (PySem.W.fnOf x x (defArgs st) (defBody st) (defScope st) .none kV dc pm an cd ct), sl⟩) (c : PySem.W.codeIn K cd x = true) (k : PySem.W.keepIn K (.ref f) = true) :
    FF K mg x st f (PySem.W.fnOf x x (defArgs st) (defBody st) (defScope st) .none kV dc pm an cd ct) := ⟨fun_mk l c k, PySem.W.mg_of X G a⟩
end
end Mi
set_option Elab.async false
set_option linter.all false
set_option maxRecDepth 100000
set_option maxHeartbeats 4000000
/-! Mi14: f-strings of texts and ints. -/
namespace Mi
open PySem PySem.Spec L2
open PyProof.Rows hiding St
/-- a part's text -/
def fmtD (fm : Bool) (x : D) : Option Str := match x with
  | .str y => some y
  | .int i => if fm = true ∧ i.natAbs.log2 < 1920 then some (toString i) else none
  | _ => none
def fsGo : List (Bool × EF) → Str → EF
  | [], acc => fun _ st => .ok (.str acc) st
  | (fm, f) :: r, acc => fun p st => bindR (f p st) fun x st1 => match fmtD fm x with
    | some y => if y.length ≤ LIM ∧ (acc ++ y).length ≤ LIM then fsGo r (acc ++ y) p st1 else .bad
    | none => .bad
def eFs (ps : List (Bool × EF)) : EF := fsGo ps Str.empty
inductive DJ (cm : Str → Option Value) (W : WX) (X : Cx) : List Expr → List (Bool × EF) → List TE → Prop where
  | nil : DJ cm W X [] [] []
  | lit {e : Expr} {f : EF} {es : List Expr} {fs : List (Bool × EF)} {ts : List TE} (h : DE cm W X e f) (r : DJ cm W X es fs ts) : DJ cm W X (e :: es) ((false, f) :: fs) (LiftE cm X.K W f :: ts)
  | fmt {e : Expr} {f : EF} {es : List Expr} {fs : List (Bool × EF)} {ts : List TE} {pos : Pos} (h : DE cm W X e f) (r : DJ cm W X es fs ts) : DJ cm W X (.FormattedValue e (-1) none pos :: es) ((true, f) :: fs) (tFmt (LiftE cm X.K W f) :: ts)
section
variable {cm : Str → Option Value} {W : WX} {X : Cx}
theorem DJ.pj {es : List Expr} {fs : List (Bool × EF)} {ts : List TE} (h : DJ cm W X es fs ts) : PJ X es ts := by
  induction h with
  | nil => exact .nil
  | lit h _ ih => exact .cons h ih
  | fmt h _ ih => exact .cons (pe_fmt h) ih
theorem DJ.run {es : List Expr} {fs : List (Bool × EF)} {ts : List TE} (h : DJ cm W X es fs ts) : ∀ (acc : Str) (s : St) (H : Hp) (Q : V → Hp → Prop), LiftE cm X.K W (fsGo fs acc) s H Q → tJs ts acc s H fun out H1 => Q (.str out) H1 := by
  induction h with
  | nil =>
    intro acc s H Q q
    obtain ⟨m, p, st, re, rs, q⟩ := q
    exact q m H (.str acc) Ext.refl rs (by simp [RV])
  | lit h r ih =>
    intro acc s H Q q
    obtain ⟨m, p, st, re, rs, q⟩ := q
    refine ⟨m, p, st, re, rs, Post.split q fun d1 st1 m1 H1 v1 e1 x1 rs1 r1 h1 => ?_⟩
    cases d1 with
    | str y =>
      simp only [RV] at r1
      subst r1
      simp only [fmtD] at h1
      split at h1
      · rename_i hz
        exact ⟨y, rfl, ofLim hz.2, ih _ _ _ _ ⟨m1, p, st1, re.ext rs x1, rs1, h1⟩⟩
      · exact h1.elim
    | int i =>
      simp only [fmtD] at h1
      rw [if_neg (by simp)] at h1
      exact h1.elim
    | _ => exact h1.elim
  | fmt h r ih =>
    intro acc s H Q q
    obtain ⟨m, p, st, re, rs, q⟩ := q
    refine ⟨m, p, st, re, rs, Post.split q fun d1 st1 m1 H1 v1 e1 x1 rs1 r1 h1 => ?_⟩
    cases d1 with
    | str y =>
      simp only [RV] at r1
      subst r1
      simp only [fmtD] at h1
      split at h1
      · rename_i hz
        exact .inl ⟨y, rfl, ofLim hz.1, y, rfl, ofLim hz.2, ih _ _ _ _ ⟨m1, p, st1, re.ext rs x1, rs1, h1⟩⟩
      · exact h1.elim
    | int i =>
      simp only [RV] at r1
      subst r1
      simp only [fmtD] at h1
      by_cases hi : i.natAbs.log2 < 1920
      · rw [if_pos ⟨True.intro, hi⟩] at h1
        dsimp only at h1
        split at h1
        · rename_i hz
          exact .inr ⟨i, rfl, hi, (toString i : String), rfl, ofLim hz.2, ih _ _ _ _ ⟨m1, p, st1, re.ext rs x1, rs1, h1⟩⟩
        · exact h1.elim
      · rw [if_neg (fun q => hi q.2)] at h1
        exact h1.elim
    | _ => exact h1.elim
theorem de_fstr {v1 v2 : Expr} {rest : List Expr} {fs : List (Bool × EF)} {ts : List TE} {pos : Pos} (h : DJ cm W X (v1 :: v2 :: rest) fs ts) : DE cm W X (.JoinedStr (v1 :: v2 :: rest) pos) (eFs fs) :=
  peI (pe_joined h.pj) fun s H Q q => h.run _ _ _ _ q
end
end Mi
set_option Elab.async false
set_option linter.all false
set_option maxRecDepth 100000
set_option maxHeartbeats 4000000
/-! Mi15: own exceptions are made and raised (begun). -/
namespace Mi
open PySem PySem.Spec L2
open PyProof.Rows hiding St
section
variable {X : Cx} {e : Expr} {es : List Expr} {ta : TA} {p1 p2 pos : Pos}
/-- B.__init__(self, ..), B an own class without __init__ over ValueError -/
theorem pe_binit {pl : Sem Bool} {x : Str} {B : Addr} (hg : Gl X x) (hm : X.mg x = some (.ref B)) (hk : PySem.W.keepIn X.K (.ref B) = true) (hr : PySem.W.readsIn X.K B (.type "type") = true) (hs : PySem.W.specialIn X.K (.ref B) "__getattribute__" = some (some (.builtin "type.__getattribute__")))
    (vV : PySem.W.findCls X.K (.ref B) (.type "type") "__init__" = some (.val (.builtin "ValueError.__init__"))) (ha : PA X (e :: es) ta) (hdb : (x == ("__debug__" : Str)) = false := by decide)
    (hc : eval (.Call (.Attribute (.Name x p1) "__init__" p2) (e :: es) [] pos) X.env = (do
      let ov ← eval (.Name x p1) X.env
      standAt p2.atName
      let (f, first) ← holding [ov] (getMethod ov "__init__" pl)
      callWith pos f first (backTo pos (starEach (e :: es) X.env)) (backToKw pos (keywordEach [] X.env))) := by rfl)
    (he : starEach (e :: es) X.env = (false, eval e X.env) :: starEach es X.env := by rfl) (hpl : (backTo pos (starEach es X.env)).any (·.1) = false := by rfl) :
    PE X (.Call (.Attribute (.Name x p1) "__init__" p2) (e :: es) [] pos) (tVeI X.K ta) := by
  refine ⟨fun pins s σ H Q I h => ?_⟩
  refine PySem.W.methodCall_KW (ld_glob I hg hm ?_ hdb) hc
  refine PySem.W.method_cls I.kIn hs (PySem.W.cls_value I.kIn hr vV (by decide +kernel) ?_)
  show wpAny _ _ (callWith pos (Value.builtin "ValueError.__init__") [] (backTo pos (starEach (e :: es) X.env)) []) _ _ _
  refine PyProof.Rows.callWith_method1 (thn (ha.run pos pins _ σ H _ (I.tok _) h) fun us s1 ⟨vs, H1, I1, r1, a, C, ws, ev, hl, T, ea, q⟩ => ?_) he hpl
  subst ev
  cases r1 with
  | @cons _ u0 _ ur ra rw' =>
    obtain rfl : u0 = Value.ref a := ra
    have hlen : ur.length ≤ sizeLine := by
      rw [← Paired.length rw', sizeLine_eq]
      omega
    exact oinit_ok T I1 ea hlen fun s' J => ⟨.non, H1, J, rfl, q⟩
end
/-- an error that is made takes its field -/
def spInit (K : PySem.W.Frag) (C : Addr) (f : Str) : Sp := fun vs H Q _ => ∃ (a : Addr) (v : V), vs = [.ref a, v] ∧ H a = some (exo a C none) ∧ ∀ dx, H dx = none → dx ≠ a → Q .non (upd (upd H dx (exd dx [(f, v)])) a (exo a C (some dx)))
theorem spInit_len {K : PySem.W.Frag} {C : Addr} {f y : Str} (vs : List V) (H : Hp) (Q : VK) (E : XK) (h : spInit K C f vs H Q E) : vs.length = [("self" : Str), y].length := by
  obtain ⟨a, v, rfl, _⟩ := h
  rfl
/-- an own class without __init__ over ValueError, as it is named in another one's __init__ -/
structure BaseC (K : PySem.W.Frag) (mg : Str → Option Value) (x : Str) (B : Addr) : Prop where
  g : mg x = some (.ref B)
  k : PySem.W.keepIn K (.ref B) = true
  r : PySem.W.readsIn K B (.type "type") = true
  s : PySem.W.specialIn K (.ref B) "__getattribute__" = some (some (.builtin "type.__getattribute__"))
  v : PySem.W.findCls K (.ref B) (.type "type") "__init__" = some (.val (.builtin "ValueError.__init__"))
/-- an error class of the law: what it leaves is f -/
structure ErrC (cm : Str → Option Value) (P : Program) (w : World) (K : PySem.W.Frag) (mg : Str → Option Value) (base : Heap) (x f : Str) (C : Addr) : Prop where
  g : mg x = some (.ref C)
  T : OexC K C
  c : cm x = some (.ref C)
  i : ∃ (fI : Addr) (fd : FuncData) (y : Str), PySem.W.findIn K (.ref C) "__init__" = some (some (.ref fI)) ∧ PySem.W.typeIn K (.ref fI) = some (.type "function") ∧ FnOk P w K mg base CX0 1 fI fd [("self" : Str), y] (spInit K C f) ∧ Binds K fd [("self" : Str), y] []
def sRaise (x f : Str) (a : EF) : SF := fun p st => bindS p (a p st) fun d st1 => .xc ⟨x, [(f, d)]⟩ p st1
section
variable {cm : Str → Option Value} {W : WX} {X : Cx}
theorem made_heap {H : Hp} {a d : Addr} {o o' u z : HO} (na : H a = none) (ne : d ≠ a) : upd (del (upd (upd (upd H a o) d u) a o') a) d z = upd H d z := by
  funext b
  by_cases hd : b = d
  · rw [hd, upd_same, upd_same]
  · rw [upd_ne hd, upd_ne hd]
    by_cases ha : b = a
    · rw [ha, del_same, na]
    · rw [del_ne ha, upd_ne ha, upd_ne hd, upd_ne ha]
/-- raise C(e) -/
theorem ds_raise {x f : Str} {C : Addr} {e : Expr} {fa : EF} {p pos posR : Pos} (hE : ErrC cm X.prog X.w X.K X.mg X.base x f C) (hc : X.calm = true) (tk : Takes X W) (hr : Room 2 X.A) (he : DE cm W X e fa) (hg : Gl X x := by rfl)
    (hdb : (x == ("__debug__" : Str)) = false := by decide) (hs : starEach [e] X.env = (false, eval e X.env) :: starEach [] X.env := by rfl) (hpl : (backTo pos (starEach [] X.env)).any (·.1) = false := by rfl) :
    DS cm W X (.Raise (some (.Call (.Name x p) [e] [] pos)) none posR) (sRaise x f fa) := by
  obtain ⟨fI, fd, y, iC, tI, F1, bd⟩ := hE.i
  refine psI (ps_raise hc tk (pmk_oex hE.T iC tI F1 hr bd .nil pass0 hg hE.g (pa_cons he pa_nil hs) hdb hs hpl)) fun D σ H h => ?_
  obtain ⟨m, q, st, re, rs, h⟩ := h
  refine ⟨m, q, st, re, rs, PostS.split re rs h fun d st1 m1 H1 v e1 x1 rs1 r1 h1 => ?_⟩
  refine ⟨by show 1 ≤ 1000; decide, fun a na => ⟨a, v, rfl, upd_same, fun dx ndx ne => ⟨rfl, dx, [(f, v)], upd_same, by rw [upd_ne ne, upd_same], by rw [upd_ne ne] at ndx; exact ndx, ?_⟩⟩⟩
  have nd : H1 dx = none := by rw [upd_ne ne] at ndx; exact ndx
  rw [made_heap na ne]
  have dm : dx ∉ m1 := rs1.fresh nd
  have e2 : Ext m1 H1 m1 (upd H1 dx (.xd [(f, v)])) := Ext.refl.touch nd
  have rs2 : RSt X.K m1 (upd H1 dx (.xd [(f, v)])) st1 := rs1.beside nd
  exact h1 m1 _ σ _ _ e2 rs2 ((re.ext rs x1).ext rs1 e2) ⟨hE.c, dx, [(f, v)], rfl, upd_same, dm, rfl, ⟨v, [], rfl, RV.ext rs1 e2 d r1, rfl⟩⟩
end
end Mi
set_option Elab.async false
set_option linter.all false
set_option maxRecDepth 100000
set_option maxHeartbeats 4000000
/-! Mi16: try .. except X as e; what a suite asks of e. -/
namespace Mi
open PySem PySem.Spec L2
open PyProof.Rows hiding St
/-- slot i is empty behind -/
def forgetS (i : Nat) : SR → SR
  | .nx p st => .nx (p.set i none) st
  | .rt d st => .rt d st
  | .bk p st => .bk (p.set i none) st
  | .ct p st => .ct (p.set i none) st
  | _ => .bad
open Classical in
/-- what comes out whatever the place -/
noncomputable def glue {α : Type} (g : α → SR) : SR := if h : ∃ r, ∀ a, g a = r then h.choose else .bad
theorem glue_eq {α : Type} {g : α → SR} {r : SR} (a0 : α) (h : ∀ a, g a = r) : glue g = r := by
  have hx : ∃ r, ∀ a, g a = r := ⟨r, h⟩
  unfold glue
  rw [dif_pos hx, ← hx.choose_spec a0, h a0]
theorem glue_at {α : Type} {g : α → SR} (h : glue g ≠ .bad) (a : α) : g a = glue g := by
  unfold glue at h ⊢
  split
  · rename_i hx
    exact hx.choose_spec a
  · rename_i hx
    rw [dif_neg hx] at h
    exact absurd rfl h
noncomputable def sTry (i : Nat) (sub : Str → Option Bool) (fb : SF) (fS : Addr → Addr → Str → SF) : SF := fun p st => match fb p st with
  | .xc e p1 st1 => match sub e.cls with
    | some true => glue fun ad : Addr × Addr => forgetS i (fS ad.1 ad.2 e.cls (p1.set i (some (.exn ad.1 ad.2 (e.fs.map (·.1)) (e.fs.map (·.2))))) st1)
    | some false => .xc e p1 st1
    | none => .bad
  | r => r
theorem RE.drop {K : PySem.W.Frag} {m : List Addr} {H : Hp} {p : Rho} {s : L2.St} (re : RE K m H p s) (i : Nat) : RE K m H (p.set i none) (s.set i none) := fun j d e => by
  by_cases h : i = j
  · subst h
    rw [List.getElem?_set_self'] at e
    cases h2 : p[i]? with
    | none => rw [h2] at e; cases e
    | some _ => rw [h2] at e; cases e
  · rw [List.getElem?_set_ne h] at e
    obtain ⟨v, e1, e2⟩ := re j d e
    exact ⟨v, by rw [List.getElem?_set_ne h]; exact e1, e2⟩
theorem post_forget {cm : Str → Option Value} {K : PySem.W.Frag} {W : WX} {m : List Addr} {H : Hp} {i : Nat} {r : SR} {D : Ends} (h : PostS cm K W m H (forgetS i r) D) :
    PostS cm K (fun _ _ _ _ => False) m H r { nx := fun σ' H' => D.nx (σ'.set i none) H', rt := D.rt, bk := fun σ' H' => D.bk (σ'.set i none) H', ct := fun σ' H' => D.ct (σ'.set i none) H' } := by
  cases r with
  | nx p st => exact fun m' H' s e rs re => h m' H' _ e rs (re.drop i)
  | rt d st => exact h
  | bk p st => exact fun m' H' s e rs re => h m' H' _ e rs (re.drop i)
  | ct p st => exact fun m' H' s e rs re => h m' H' _ e rs (re.drop i)
  | xc e p st => exact h.elim
  | bad => exact h.elim
theorem zip_unzip {α β : Type} : ∀ xs : List (α × β), (xs.map (·.1)).zip (xs.map (·.2)) = xs
  | [] => rfl
  | (a, b) :: xs => by simp only [List.map_cons, List.zip_cons_cons, zip_unzip xs]
theorem pssIL {e : List Stmt} {X : Cx} {t t' : TS} (h : PSs X e t) (i : ∀ D s H, s.length = X.N.length → t' D s H → t D s H) : PSs X e t' := ⟨fun pins s σ H Q I q => h.run pins s σ H Q I (i _ _ _ I.len q)⟩
section
variable {cm : Str → Option Value} {W : WX} {X : Cx}
/-- try: .. except x as n: .. -/
theorem ds_try {x n : Str} {c : Value} {i : Nat} {body suite : List Stmt} {b₀ : Stmt} {np pos pos' : Pos} {sub : Str → Option Bool} {fb : SF} {fS : Addr → Addr → Str → SF}
    (hN : X.N.Nodup) (tk : Takes X W) (hc : Names X x c) (hsub : ∀ cn b cls, sub cn = some b → cm cn = some cls → PySem.W.exmOne X.K cls c = some b)
    (hb : ∀ (W' : WX) (pn : List (Addr × Obj)) (xe : Value → Shared → Prop), Takes (X.tr pn xe) W' → PassesOwn (model X.prog X.w) X.A X.env xe → DSs cm W' (X.tr pn xe) body fb)
    (hsu : ∀ (a dd : Addr) (oe : Obj) (cls : Value) (cn : Str) (pn : List (Addr × Obj)), cm cn = some cls → Zc cls (some dd) oe → (∃ vs, oe.data = .fields vs) → DSs cm (fun _ _ _ _ => False) (X.suite a ((a, oe) :: pn)) (b₀ :: suite) (fS a dd cn))
    (hi : X.N[i]? = some n := by rfl) (hs : X.stack = X.env :: X.outer := by rfl) (hf : X.env.frame = some X.env.locals := by rfl) (hln : X.env.kindOf n = some .local := by rfl) :
    DS cm W X (.Try body [.ExceptHandler (some (.Name x np)) (some n) (b₀ :: suite) pos'] [] [] pos) (sTry i sub fb fS) := by
  refine psI (ps_try_as (tb := fun W' => LiftS cm X.K W' fb) (ts := fun a cls d D σ H => σ.length = X.N.length → ∃ cn dd, cm cn = some cls ∧ d = some dd ∧ LiftS cm X.K (fun _ _ _ _ => False) (fS a dd cn) D σ H) hs hf hN hi hln hc tk hb (fun a oe cls d pn hz hv => ⟨fun pins s σ H D I q => ?_⟩)) fun D σ H h => ?_
  · obtain ⟨cn, dd, h1, rfl, h2⟩ := q I.len
    exact (hsu a dd oe cls cn pn h1 hz hv).run pins s σ H D I h2
  · obtain ⟨m, p, st, re, rs, h⟩ := h
    refine ⟨m, p, st, re, rs, ?_⟩
    unfold sTry at h
    cases hr : fb p st with
    | nx p1 st1 => rw [hr] at h; exact h
    | rt d st1 => rw [hr] at h; exact h
    | bk p1 st1 => rw [hr] at h; exact h
    | ct p1 st1 => rw [hr] at h; exact h
    | bad => rw [hr] at h; exact h.elim
    | xc e p1 st1 =>
      rw [hr] at h
      simp only at h
      intro m' H' s' c' dd' ex rs' re' rx
      have rx0 := rx
      obtain ⟨hcm, ad, fs, rfl, hxd, hnm, hk, hv⟩ := rx
      cases hb' : sub e.cls with
      | none => rw [hb'] at h; exact h.elim
      | some b =>
        rw [hb'] at h
        refine ⟨b, hsub _ _ _ hb' hcm, fun hbt a na hlen => ?_, fun hbf => ?_⟩
        · subst hbt
          simp only at h
          have hg : glue (fun ad : Addr × Addr => forgetS i (fS ad.1 ad.2 e.cls (p1.set i (some (.exn ad.1 ad.2 (e.fs.map (·.1)) (e.fs.map (·.2))))) st1)) ≠ .bad := fun z => by rw [z] at h; exact h
          rw [← glue_at hg (a, ad)] at h
          refine ⟨e.cls, ad, hcm, rfl, m', _, st1, ?_, rs', post_forget (h.at ex rs')⟩
          refine re'.set (by rw [List.length_set] at hlen; rw [hlen]; exact (List.getElem?_eq_some_iff.mp hi).1) ?_
          simp only [RV]
          refine ⟨trivial, fs.map (·.2), ?_, ?_, hv⟩
          · rw [hk, zip_unzip]; exact hxd
          · rw [List.length_map, List.length_map]
            have := congrArg List.length hk
            simpa using this
        · subst hbf
          simp only at h
          exact h m' H' s' c' _ ex rs' re' rx0
end

/-! ### what a suite asks of the caught error -/
section
variable {X : Cx} {a C dd : Addr} {oe : Obj} {pn : List (Addr × Obj)}
theorem kit_x {pins : List (Addr × Obj)} {σ : L2.St} {H : Hp} {s : Shared} {fs : List (Str × V)} (E : ExcC X.K C) (hz : Zc (.ref C) (some dd) oe) (hf : ∃ vs, oe.data = .fields vs) (I : Inv (X.suite a ((a, oe) :: pn)) pins σ H s) (hd : H dd = some (.xd fs)) :
    ∃ P : Heap → Prop, PySem.W.KitX X.K (.ref a) (.ref C) P ∧ P s.heap := by
  obtain ⟨ha, _⟩ := I.pin (a, oe) (List.mem_append_left _ List.mem_cons_self)
  obtain ⟨vs, hv⟩ := hf
  have hx : ObjOk X.prog X.w H s.heap dd (.xd fs) := I.hok dd _ hd
  obtain ⟨mA, hns, hr⟩ := hx
  obtain ⟨od, ho, hl⟩ := lookIn_ns hns
  have J : PySem.W.InstAt s.heap a oe C (some od) := ⟨ha, hz.1, by unfold PySem.W.notCls; rw [hv] <;> rfl, by rw [hz.2]; exact ho⟩
  obtain ⟨cd, hc, _⟩ := PySem.W.any_some E.hd
  exact ⟨_, PySem.W.kitx_exc (by rw [hc]; rfl) E.hg E.hk E.hs E.ha E.hn E.ht E.hm, J⟩
def rIsX (K : PySem.W.Frag) (C a dd : Addr) : List V → Hp → VK → Prop := fun xs H Q => ∃ (c : V) (u : Value) (b : Bool) (fs : List (Str × V)), xs = [.ref a, c] ∧ H dd = some (.xd fs) ∧ ClsV c u ∧ PySem.W.kitOne K (.ref C) u = some b ∧ Q (.bl b) H
def rIsXT (K : PySem.W.Frag) (C a dd : Addr) : List V → Hp → VK → Prop := fun xs H Q => ∃ (tp : Addr) (cs : List V) (us : List Value) (b : Bool) (fs : List (Str × V)), xs = [.ref a, .ref tp] ∧ H dd = some (.xd fs) ∧ H tp = some (.tup cs) ∧ Paired ClsV cs us ∧ PySem.W.kitAny K (.ref C) us = some b ∧ Q (.bl b) H
theorem call_isX (E : ExcC X.K C) (hz : Zc (.ref C) (some dd) oe) (hf : ∃ vs, oe.data = .fields vs) : CallR (X.suite a ((a, oe) :: pn)) (.builtin "isinstance") (rIsX X.K C a dd) := by
  intro pins s σ H xs us Q I r h
  obtain ⟨c, u, b, fs, rfl, hd, k, e, q⟩ := h
  obtain ⟨u1, u2, rfl, r1, r2⟩ := vals2 r
  have e2 := k.eq r2
  subst e2
  obtain rfl : u1 = Value.ref a := r1
  obtain ⟨P, Z, p⟩ := kit_x E hz hf I hd
  exact PySem.W.kia_one Z I.kIn p e (fun z => nomatch z) fun tk => ⟨.bl b, H, I.tok tk, rfl, q⟩
theorem call_isXT (E : ExcC X.K C) (hz : Zc (.ref C) (some dd) oe) (hf : ∃ vs, oe.data = .fields vs) : CallR (X.suite a ((a, oe) :: pn)) (.builtin "isinstance") (rIsXT X.K C a dd) := by
  intro pins s σ H xs us Q I r h
  obtain ⟨tp, cs, ws, b, fs, rfl, hd, hT, k, e, q⟩ := h
  obtain ⟨u1, u2, rfl, r1, r2⟩ := vals2 r
  cases (show u2 = Value.ref tp from r2)
  obtain rfl : u1 = Value.ref a := r1
  obtain ⟨P, Z, p⟩ := kit_x E hz hf I hd
  obtain ⟨_, its, rv, o, h1, h2, n, h3⟩ := (show ObjOk X.prog X.w H s.heap tp (.tup cs) from I.hok tp _ hT)
  have e3 := ClsV.all k rv
  subst e3
  obtain ⟨oc, od, dt, sl⟩ := o
  simp only at h2 h3
  subst h2 h3
  exact PySem.W.kia_tup Z I.kIn p h1 e (fun z => nomatch z) fun tk => ⟨.bl b, H, I.tok tk, rfl, q⟩
end
theorem call_no {X : Cx} {f : Value} : CallR X f (fun _ _ _ => False) := fun _ _ _ _ _ _ _ _ _ h => h.elim
/-- a class by its name -/
def ClN (mg : Str → Option Value) (x : Str) (u : Value) : Prop := (∃ C, u = .ref C ∧ mg x = some (.ref C)) ∨ (∃ T, u = .type T ∧ mg x = none ∧ bootBuiltins x = some (.type T) ∧ x ≠ "__name__")
def tConst (cs : List V) : TA := fun _ H Q => Q cs H
section
variable {cm : Str → Option Value} {W : WX} {X : Cx} {a dd : Addr} {oe : Obj} {cls : Value} {pn : List (Addr × Obj)} {e : Expr} {fe : EF} {pos pf pT : Pos}
theorem pe_cln {x : Str} {u : Value} (h : ClN X.mg x u) (hg : Gl X x) (hd : (x == ("__debug__" : Str)) = false := by decide) : ∃ c, ClsV c u ∧ PE X (.Name x pos) (tC c) := by
  rcases h with ⟨C, rfl, h⟩ | ⟨T, rfl, h1, h2, h3⟩
  · exact ⟨_, .own C, pe_glob hg h rfl hd⟩
  · exact ⟨_, .ty T, pe_bltn hg h1 h2 rfl h3 hd⟩
/-- names of classes, as they stand in a tuple -/
def CAs (X : Cx) (es : List Expr) (us : List Value) : Prop := ∃ cs, Paired ClsV cs us ∧ PA X es (tConst cs)
theorem cas_nil : CAs X [] [] := ⟨[], .nil, paI pa_nil fun _ _ _ h => h⟩
theorem cas_cons {x : Str} {es : List Expr} {u : Value} {us : List Value} (h : ClN X.mg x u) (hr : CAs X es us) (hg : Gl X x := by rfl) (hd : (x == ("__debug__" : Str)) = false := by decide)
    (hs : starEach (.Name x pos :: es) X.env = (false, eval (.Name x pos) X.env) :: starEach es X.env := by rfl) : CAs X (.Name x pos :: es) (u :: us) := by
  obtain ⟨c, k, p⟩ := pe_cln (pos := pos) h hg hd
  obtain ⟨cs, ks, ps⟩ := hr
  exact ⟨c :: cs, .cons k ks, paI (pa_cons p ps hs) fun _ _ _ h => h⟩
/-- b: the answer, as it stands in the law's table -/
def isxF (a dd : Addr) (b : Option Bool) : D → Store → Option (D × Store) := fun d st => match d with
  | .exn a' dd' _ _ => if a' = a ∧ dd' = dd then b.map fun v => (.bl v, st) else none
  | _ => none
theorem isxF_some {d : D} {st : Store} {b : Option Bool} {r : D × Store} (h : isxF a dd b d st = some r) : ∃ (ks : List Str) (xs : List D) (v : Bool), d = .exn a dd ks xs ∧ b = some v ∧ r = (.bl v, st) := by
  cases d with
  | exn a' dd' ks xs =>
    simp only [isxF] at h
    split at h
    · rename_i hh
      obtain ⟨v, e1, e2⟩ := Option.map_eq_some_iff.mp h
      exact ⟨ks, xs, v, by rw [hh.1, hh.2], e1, e2.symm⟩
    · cases h
  | _ => cases h
theorem de_isx {x : Str} {u : Value} {b : Option Bool} (hz : Zc cls (some dd) oe) (hf : ∃ vs, oe.data = .fields vs) (hq : ∀ v, b = some v → ∃ C, cls = .ref C ∧ ExcC X.K C ∧ PySem.W.kitOne X.K (.ref C) u = some v)
    (he : DE cm W (X.suite a ((a, oe) :: pn)) e fe) (hm : X.mg "isinstance" = none) (hu : ClN X.mg x u) (hg : Gl X "isinstance" := by rfl) (hgT : Gl X x := by rfl) (hdb : (x == ("__debug__" : Str)) = false := by decide)
    (he1 : starEach [e, .Name x pT] X.env = (false, eval e X.env) :: starEach [.Name x pT] X.env := by rfl) (he2 : starEach [.Name x pT] X.env = (false, eval (.Name x pT) X.env) :: starEach [] X.env := by rfl) (hpl : (backTo pos (starEach [.Name x pT] X.env)).any (·.1) = false := by rfl) :
    DE cm W (X.suite a ((a, oe) :: pn)) (.Call (.Name "isinstance" pf) [e, .Name x pT] [] pos) (eUn (isxF a dd b) fe) := by
  obtain ⟨c, k, pc⟩ := pe_cln (X := X.suite a ((a, oe) :: pn)) (pos := pT) hu hgT hdb
  cases hb : b with
  | none =>
    refine peI (pe_callB (call_no (f := .builtin "isinstance")) hg hm (by decide +kernel) (pa_cons he (pa_cons pc pa_nil he2) he1) (by decide) (by decide) he1 hpl) fun s H Q h => ?_
    obtain ⟨m, p, st, re, rs, h⟩ := h
    refine ⟨m, p, st, re, rs, Post.split h fun d st1 m1 H1 v1 e1 x1 rs1 r1 h1 => ?_⟩
    have h1 := PostO.of h1
    cases hx : isxF a dd none d st1 with
    | none => rw [hx] at h1; exact h1.elim
    | some r =>
      obtain ⟨_, _, _, _, z, _⟩ := isxF_some hx
      cases z
  | some v =>
    obtain ⟨C, rfl, E, hk⟩ := hq v hb
    refine peI (pe_callB (call_isX E hz hf) hg hm (by decide +kernel) (pa_cons he (pa_cons pc pa_nil he2) he1) (by decide) (by decide) he1 hpl) fun s H Q h => ?_
    obtain ⟨m, p, st, re, rs, h⟩ := h
    refine ⟨m, p, st, re, rs, Post.split h fun d st1 m1 H1 v1 e1 x1 rs1 r1 h1 => ?_⟩
    have h1 := PostO.of h1
    cases hx : isxF a dd (some v) d st1 with
    | none => rw [hx] at h1; exact h1.elim
    | some r =>
      rw [hx] at h1
      obtain ⟨ks, xs, v', rfl, e2, rfl⟩ := isxF_some hx
      cases e2
      simp only [RV] at r1
      obtain ⟨rfl, zs, h2, _⟩ := r1
      exact ⟨c, u, v, _, rfl, h2, k, hk, h1 m1 H1 _ Ext.refl rs1 (by simp [RV])⟩
theorem de_isxT {es : List Expr} {us : List Value} {b : Option Bool} {x1 : Nat} {pos2 : Pos} (hz : Zc cls (some dd) oe) (hf : ∃ vs, oe.data = .fields vs) (hq : ∀ v, b = some v → ∃ C, cls = .ref C ∧ ExcC X.K C ∧ PySem.W.kitAny X.K (.ref C) us = some v)
    (he : DE cm W (X.suite a ((a, oe) :: pn)) e fe) (hm : X.mg "isinstance" = none) (hu : CAs (X.suite a ((a, oe) :: pn)) es us) (hl : us.length ≤ 1000) (hg : Gl X "isinstance" := by rfl)
    (he1 : starEach [e, .Tuple es x1 pos2] X.env = (false, eval e X.env) :: starEach [.Tuple es x1 pos2] X.env := by rfl) (he2 : starEach [.Tuple es x1 pos2] X.env = (false, eval (.Tuple es x1 pos2) X.env) :: starEach [] X.env := by rfl) (hpl : (backTo pos (starEach [.Tuple es x1 pos2] X.env)).any (·.1) = false := by rfl) :
    DE cm W (X.suite a ((a, oe) :: pn)) (.Call (.Name "isinstance" pf) [e, .Tuple es x1 pos2] [] pos) (eUn (isxF a dd b) fe) := by
  obtain ⟨cs, ks, pc⟩ := hu
  cases hb : b with
  | none =>
    refine peI (pe_callB (call_no (f := .builtin "isinstance")) hg hm (by decide +kernel) (pa_cons he (pa_cons (pe_tup pc) pa_nil he2) he1) (by decide) (by decide) he1 hpl) fun s H Q h => ?_
    obtain ⟨m, p, st, re, rs, h⟩ := h
    refine ⟨m, p, st, re, rs, Post.split h fun d st1 m1 H1 v1 e1 x1 rs1 r1 h1 => ?_⟩
    have h1 := PostO.of h1
    cases hx : isxF a dd none d st1 with
    | none => rw [hx] at h1; exact h1.elim
    | some r =>
      obtain ⟨_, _, _, _, z, _⟩ := isxF_some hx
      cases z
  | some v =>
    obtain ⟨C, rfl, E, hk⟩ := hq v hb
    refine peI (pe_callB (call_isXT E hz hf) hg hm (by decide +kernel) (pa_cons he (pa_cons (pe_tup pc) pa_nil he2) he1) (by decide) (by decide) he1 hpl) fun s H Q h => ?_
    obtain ⟨m, p, st, re, rs, h⟩ := h
    refine ⟨m, p, st, re, rs, Post.split h fun d st1 m1 H1 v1 e1 x1 rs1 r1 h1 => ?_⟩
    have h1 := PostO.of h1
    cases hx : isxF a dd (some v) d st1 with
    | none => rw [hx] at h1; exact h1.elim
    | some r =>
      rw [hx] at h1
      obtain ⟨ks', xs, v', rfl, e2, rfl⟩ := isxF_some hx
      cases e2
      simp only [RV] at r1
      obtain ⟨rfl, zs, h2, _⟩ := r1
      refine ⟨by rw [Paired.length ks, sizeLine_eq]; omega, fun tp ht => ?_⟩
      have nd : dd ≠ tp := fun z => by rw [z, ht] at h2; cases h2
      exact ⟨tp, cs, us, v, _, rfl, by rw [upd_ne nd]; exact h2, upd_same, ks, hk, h1 m1 _ _ (Ext.refl.touch ht) (rs1.beside ht) (by simp [RV])⟩
/-- e.f: ok: whether the class is one whose errors hold the field so -/
def xfF (a dd : Addr) (ok : Bool) (n : Str) : D → Store → Option (D × Store) := fun d st => match d with
  | .exn a' dd' ks xs => if a' = a ∧ dd' = dd ∧ ok = true then ((ks.zip xs).lookup n).map fun v => (v, st) else none
  | _ => none
theorem RVs.lookup {K : PySem.W.Frag} {m : List Addr} {H : Hp} {n : Str} : ∀ {ks : List Str} {xs : List D} {zs : List V} {d : D}, RVs K m H xs zs → (ks.zip xs).lookup n = some d → ∃ v, (ks.zip zs).lookup n = some v ∧ RV K m H d v
  | [], _, _, _, _, e => by simp at e
  | k :: ks, [], _, _, _, e => by simp at e
  | k :: ks, x :: xs, zs, d, r, e => by
    simp only [RVs] at r
    obtain ⟨z, zr, rfl, h1, h2⟩ := r
    simp only [List.zip_cons_cons, List.lookup_cons] at e ⊢
    cases hk : n == k with
    | true => rw [hk] at e; cases e; exact ⟨z, rfl, h1⟩
    | false => rw [hk] at e; exact RVs.lookup h2 e
theorem de_xf {n : Str} {ok : Bool} (hz : Zc cls (some dd) oe) (hf : ∃ vs, oe.data = .fields vs) (hq : ok = true → ∃ C, cls = .ref C ∧ XfC X.K C ∧ PySem.W.findIn X.K (.ref C) n = some none)
    (he : DE cm W (X.suite a ((a, oe) :: pn)) e fe) (hb : attributeBase e n X.env (eval e X.env) = eval e X.env := by rfl) : DE cm W (X.suite a ((a, oe) :: pn)) (.Attribute e n pos) (eUn (xfF a dd ok n) fe) := by
  cases ok with
  | false =>
    refine ⟨fun pins s σ H Q I h => ?_⟩
    obtain ⟨m, p, st, re, rs, h⟩ := h
    refine attr_of hb (thn (he.run pins s σ H (fun _ _ => False) I ⟨m, p, st, re, rs, Post.split h fun d st1 m1 H1 v1 e1 x1 rs1 r1 h1 => ?_⟩) fun u s1 hh => ?_)
    · have g1 := PostO.of h1
      cases d with
      | exn a' dd' ks xs =>
        simp only [xfF] at g1
        split at g1
        · rename_i hh
          cases hh.2.2
        · exact g1.elim
      | _ => exact g1.elim
    · obtain ⟨_, _, _, _, z⟩ := hh
      exact z.elim
  | true =>
    obtain ⟨C, rfl, T, hno⟩ := hq rfl
    refine peI (pe_xf T hno hz hf he hb) fun s H Q h => ?_
    obtain ⟨m, p, st, re, rs, h⟩ := h
    refine ⟨m, p, st, re, rs, Post.split h fun d st1 m1 H1 v1 e1 x1 rs1 r1 h1 => ?_⟩
    have g1 := PostO.of h1
    clear h1
    cases d with
    | exn a' dd' ks xs =>
      simp only [xfF] at g1
      split at g1
      · rename_i hh
        obtain ⟨rfl, rfl, _⟩ := hh
        simp only [RV] at r1
        obtain ⟨rfl, zs, h2, _, h3⟩ := r1
        cases hl : (ks.zip xs).lookup n with
        | none => rw [hl] at g1; exact g1.elim
        | some y =>
          rw [hl] at g1
          obtain ⟨v, h4, h5⟩ := RVs.lookup h3 hl
          exact ⟨rfl, rfl, _, _, v, rfl, h2, h4, g1 m1 H1 _ Ext.refl rs1 h5⟩
      · exact g1.elim
    | _ => exact g1.elim
end
end Mi
set_option Elab.async false
set_option linter.all false
set_option maxRecDepth 100000
set_option maxHeartbeats 4000000
/-! Mi17: what the top has written of error classes; tables of answers. -/
namespace Mi
open PySem PySem.Spec L2
open PyProof.Rows hiding St
/-- an error class whose __init__ is st and whose errors hold f -/
structure XC (K : PySem.W.Frag) (mg : Str → Option Value) (x : Str) (st : Stmt) (C fI : Addr) (fd : FuncData) : Prop where
  m : mg x = some (.ref C)
  O : OexC K C
  X : ExcC K C
  iC : PySem.W.findIn K (.ref C) "__init__" = some (some (.ref fI))
  iT : PySem.W.typeIn K (.ref fI) = some (.type "function")
  F : Fun K "__init__" (x ++ ".__init__") st fI fd
  n : PySem.W.nsIn K PySem.mainGlobals x = some (some (.ref C))
theorem XC.xf {K : PySem.W.Frag} {mg : Str → Option Value} {x : Str} {st : Stmt} {C fI : Addr} {fd : FuncData} (E : XC K mg x st C fI fd) : XfC K C := ⟨E.X.hg, E.X.hk, E.X.hs, E.X.hd⟩
section
variable {K : PySem.W.Frag} {mg : Str → Option Value} {h : Heap} {x q : Str} {st : Stmt} {C D f : Addr} {b : Bool}
theorem xc_mk {od an : Option Addr} {sl : Array (Option Value)} {oc kV dc pm cd ct : Value} {nm q N bs bm sn sub ab col dd k0 k1 k2 k3 k5} (X : K.In h) (G : h.Ns mainGlobals mg)
    (a : PySem.W.nsIn K mainGlobals x = some (some (.ref C))) (lC : K.lookup C = some (excClassObj nm q C N bs bm true sn sub ab col dd k0 k1 k2 k3 k5 "ValueError.__new__")) (rV : PySem.HandSPX.refsVE bm = true)
    (sa : PySem.W.findIn K (.ref C) "__setattr__" = some (some (.builtin "object.__setattr__"))) (exC : PySem.W.subIn K (.ref C) (.type "BaseException") = some true) (tyC : PySem.W.typeIn K (.ref C) = some (.type "type")) (kC : PySem.W.keepIn K (.ref C) = true)
    (hg : PySem.W.findIn K (.ref C) "__getattribute__" = some (some (.builtin "BaseException.__getattribute__"))) (hk : PySem.W.findIn K (.ref C) "__getattr__" = some none) (hd : PySem.W.hasDictIn K C = true) (ha : PySem.W.findIn K (.ref C) "__class__" = some (some (.builtin "object.__class__")))
    (hn : PySem.W.specialIn K (.builtin "object.__class__") "__get__" = some (some (.builtin "getset_descriptor.__get__"))) (ht : PySem.W.takesIn K (.builtin "object.__class__") = some true) (hm : PySem.W.mroIn K C (.type "object") = some true)
    (iC : PySem.W.findIn K (.ref C) "__init__" = some (some (.ref f))) (iF : PySem.W.isFn K (.ref f) = true) (l : K.lookup f = some ⟨oc, od, .func (PySem.W.fnOf "__init__" (x ++ ".__init__") (defArgs st) (defBody st) (defScope st) .none kV dc pm an cd ct), sl⟩)
    (c : PySem.W.codeIn K cd (x ++ ".__init__") = true) (k : PySem.W.keepIn K (.ref f) = true) : XC K mg x st C f (PySem.W.fnOf "__init__" (x ++ ".__init__") (defArgs st) (defBody st) (defScope st) .none kV dc pm an cd ct) :=
  ⟨PySem.W.mg_of X G a, ⟨⟨nm, q, N, bs, bm, sn, sub, ab, col, dd, k0, k1, k2, k3, k5, lC, rV⟩, sa, exC, tyC, kC⟩, ⟨hg, hk, exC, hd, ha, hn, ht, hm⟩, iC, beq_iff_eq.mp iF, fun_mk l c k, a⟩
/-- a class as it is asked for -/
structure CD (K : PySem.W.Frag) (mg : Str → Option Value) (x : Str) (D : Addr) : Prop where
  m : mg x = some (.ref D)
  i : PySem.W.isClsIn K D = true
  t : PySem.W.typeIn K (.ref D) = some (.type "type")
theorem cd_mk (X : K.In h) (G : h.Ns mainGlobals mg) (a : PySem.W.nsIn K mainGlobals x = some (some (.ref D))) (i : PySem.W.isClsIn K D = true) (t : PySem.W.typeIn K (.ref D) = some (.type "type")) : CD K mg x D := ⟨PySem.W.mg_of X G a, i, t⟩
theorem CD.cln (c : CD K mg x D) : ClN mg x (.ref D) := .inl ⟨D, rfl, c.m⟩
theorem CD.kitCls (c : CD K mg x D) (s : PySem.W.subIn K (.ref C) (.ref D) = some b) : PySem.W.kitCls K (.ref C) (.ref D) = some b := by
  have e2 : ((PySem.W.clsIn K D).isSome && PySem.W.typeIn K (.ref D) == some (.type "type")) = true := by
    have h2' : (PySem.W.clsIn K D).isSome = true := c.i
    rw [h2', c.t] <;> rfl
  show (if ((PySem.W.clsIn K D).isSome && PySem.W.typeIn K (.ref D) == some (.type "type")) = true then PySem.W.subIn K (.ref C) (.ref D) else none) = some b
  rw [if_pos e2]
  exact s
theorem CD.kit (c : CD K mg x D) (s : PySem.W.subIn K (.ref C) (.ref D) = some b) (n : b = true ∨ (Value.ref C == Value.ref D) = false) : PySem.W.kitOne K (.ref C) (.ref D) = some b := by
  unfold PySem.W.kitOne
  split
  · rename_i e
    rcases n with n | n
    · rw [n]
    · rw [n] at e; cases e
  · exact c.kitCls s
theorem CD.exm (c : CD K mg x D) (s : PySem.W.subIn K (.ref C) (.ref D) = some b) (e : PySem.W.subIn K (.ref D) (.type "BaseException") = some true) : PySem.W.exmOne K (.ref C) (.ref D) = some b := by
  unfold PySem.W.exmOne
  rw [e]
  exact c.kitCls s
theorem kit_typ {T : String} (s : PySem.W.subIn K (.ref C) (.type T) = some b) (hm : PySem.W.kitMeta T = true := by decide +kernel) : PySem.W.kitOne K (.ref C) (.type T) = some b := by
  have e : (Value.ref C == Value.type T) = false := Bool.eq_false_iff.mpr fun q => by cases beq_iff_eq.mp q
  unfold PySem.W.kitOne
  rw [e]
  show PySem.W.kitCls K (.ref C) (.type T) = some b
  show (if PySem.W.kitMeta T = true then PySem.W.subIn K (.ref C) (.type T) else none) = some b
  rw [if_pos hm]
  exact s
/-- a table of answers: by the name of the class -/
def TabOk (K : PySem.W.Frag) (mg : Str → Option Value) (q : Value → Bool → Prop) (l : List (Str × Bool)) : Prop := ∀ p ∈ l, ∃ C, mg p.1 = some (.ref C) ∧ ExcC K C ∧ q (.ref C) p.2
theorem tab_nil {q : Value → Bool → Prop} : TabOk K mg q [] := fun _ h => by cases h
theorem tab_cons {q : Value → Bool → Prop} {l : List (Str × Bool)} {fI : Addr} {fd : FuncData} (E : XC K mg x st C fI fd) (hq : q (.ref C) b) (t : TabOk K mg q l) : TabOk K mg q ((x, b) :: l) := fun p hp => by
  rcases List.mem_cons.mp hp with rfl | hp
  · exact ⟨C, E.m, E.X, hq⟩
  · exact t p hp
theorem mem_lookup {α β : Type} [BEq α] [LawfulBEq α] {a : α} {b : β} : ∀ {l : List (α × β)}, l.lookup a = some b → (a, b) ∈ l
  | [], h => by cases h
  | (k, v) :: l, h => by
    rw [List.lookup_cons] at h
    cases hk : a == k with
    | true => rw [hk] at h; cases h; rw [beq_iff_eq.mp hk]; exact List.mem_cons_self
    | false => rw [hk] at h; exact List.mem_cons_of_mem _ (mem_lookup h)
theorem TabOk.at {q : Value → Bool → Prop} {l : List (Str × Bool)} (t : TabOk K mg q l) {cn : Str} {cls : Value} (hc : mg cn = some cls) : ∀ v, l.lookup cn = some v → ∃ C, cls = .ref C ∧ ExcC K C ∧ q (.ref C) v := fun v e => by
  obtain ⟨C, h1, h2, h3⟩ := t _ (mem_lookup e)
  rw [hc] at h1
  cases h1
  exact ⟨C, rfl, h2, h3⟩
theorem TabOk.one {q : Value → Bool → Prop} {l : List (Str × Bool)} (t : TabOk K mg q l) (cn : Str) (b : Bool) (cls : Value) (e : l.lookup cn = some b) (hc : mg cn = some cls) : q cls b := by
  obtain ⟨C, rfl, _, h⟩ := t.at hc b e
  exact h
theorem kitAny_or {t c : Value} {cs : List Value} {b r : Bool} (h : PySem.W.kitOne K t c = some b) (hr : PySem.W.kitAny K t cs = some r) : PySem.W.kitAny K t (c :: cs) = some (b || r) :=
  kitAny_cons h (fun z => by subst z; exact hr) fun z => by subst z; rfl
end
theorem TabOk.fld {K : PySem.W.Frag} {mg : Str → Option Value} {n : Str} {l : List (Str × Bool)} (t : TabOk K mg (fun c v => v = true → ∃ C, c = .ref C ∧ XfC K C ∧ PySem.W.findIn K (.ref C) n = some none) l) {cn : Str} {cls : Value} (hc : mg cn = some cls) :
    (l.lookup cn == some true) = true → ∃ C, cls = .ref C ∧ XfC K C ∧ PySem.W.findIn K (.ref C) n = some none := fun h => t.one cn true cls (beq_iff_eq.mp h) hc rfl
theorem bc_mk {K : PySem.W.Frag} {mg : Str → Option Value} {h : Heap} {x : Str} {B : Addr} (X : K.In h) (G : h.Ns mainGlobals mg) (a : PySem.W.nsIn K mainGlobals x = some (some (.ref B))) (k : PySem.W.keepIn K (.ref B) = true) (r : PySem.W.readsIn K B (.type "type") = true)
    (s : PySem.W.specialIn K (.ref B) "__getattribute__" = some (some (.builtin "type.__getattribute__"))) (v : PySem.W.findCls K (.ref B) (.type "type") "__init__" = some (.val (.builtin "ValueError.__init__"))) : BaseC K mg x B := ⟨PySem.W.mg_of X G a, k, r, s, v⟩
theorem BX.tr {W W' : WX} {k : Nat} {X : Cx} {pn : List (Addr × Obj)} {xe : Value → Shared → Prop} (b : BX W k X) (tk : Takes (X.tr pn xe) W') (po : PassesOwn (model X.prog X.w) X.A X.env xe) : BX W' k (X.tr pn xe) := ⟨tk, po, b.calm, b.nd, b.hr, b.gd, b.sys⟩
/-- what a suite may lean on -/
structure SX (X : Cx) : Prop where
  nd : X.N.Nodup
theorem BX.su {W : WX} {k : Nat} {X : Cx} {a : Addr} {oe : Obj} {pn : List (Addr × Obj)} (b : BX W k X) : SX (X.suite a ((a, oe) :: pn)) := ⟨b.nd⟩
/-! ### in a range -/
/-- x in range(lo, hi) (neg: not in), lo and hi as they come -/
def inRgF (neg : Bool) (a lo hi : EF) : EF := fun p st => bindR (a p st) fun x st1 => bindR (lo p st1) fun l st2 => bindR (hi p st2) fun h st3 => match x, l, h with
  | .int i, .int l, .int h => .ok (.bl (decide (l ≤ i ∧ i < h) != neg)) st3
  | _, _, _ => .bad
section
variable {cm : Str → Option Value} {W : WX} {X : Cx}
theorem op_notIn_rng : OpR X (compareOp .NotIn) (fun x y H Q => ∃ i a lo hi, x = V.int i ∧ y = V.ref a ∧ H a = some (.rng lo hi) ∧ Q (.bl (!decide (lo ≤ i ∧ i < hi))) H) := by
  intro pins s σ H x y v u Q I rx ry h
  obtain ⟨i, a, lo, hi, rfl, rfl, ha, q⟩ := h
  obtain ⟨k, rfl⟩ := rx
  obtain rfl : u = Value.ref a := ry
  obtain ⟨t1, t2, t3, ho⟩ := I.hok a _ ha
  show wpAny _ _ (do return Value.bool (!(← contains (Value.ref a) (Value.int i k)))) _ _ s
  refine wpAny_bind (wpAny_contains_slot (T := "range") ⟨_, ho, rfl⟩ PySem.F.slot_range_contains (PySem.call_meets PySem.F.slot_range_contains ⟨_, ho, rfl⟩ PySem.F.entry_range_contains (PySem.F.args_range_contains_2 _ _) (q_contains a lo hi i t1 t2 t3 k)
    ⟨ho, wpAny_truthy_bool (wpAny_pure ⟨.bl _, H, I, rfl, ?_⟩)⟩))
  rw [place1]
  exact q
theorem op_rg {neg : Bool} : OpR X (compareOp (if neg = true then .NotIn else .In)) (fun x y H Q => ∃ i a lo hi, x = V.int i ∧ y = V.ref a ∧ H a = some (.rng lo hi) ∧ Q (.bl (decide (lo ≤ i ∧ i < hi) != neg)) H) := by
  cases neg with
  | true =>
    intro pins s σ H x y v u Q I rx ry h
    obtain ⟨i, a, lo, hi, e1, e2, ha, q⟩ := h
    exact op_notIn_rng pins s σ H x y v u Q I rx ry ⟨i, a, lo, hi, e1, e2, ha, by simpa using q⟩
  | false =>
    intro pins s σ H x y v u Q I rx ry h
    obtain ⟨i, a, lo, hi, e1, e2, ha, q⟩ := h
    exact op_in_rng pins s σ H x y v u Q I rx ry ⟨i, a, lo, hi, e1, e2, ha, by simpa using q⟩
theorem inRg_split {neg : Bool} {a l h : Expr} {fa fl fh : EF} {s : L2.St} {H : Hp} {Q : VK} (q : LiftE cm X.K W (inRgF neg fa fl fh) s H Q) :
    tOp (fun x y H Q => ∃ i a lo hi, x = V.int i ∧ y = V.ref a ∧ H a = some (.rng lo hi) ∧ Q (.bl (decide (lo ≤ i ∧ i < hi) != neg)) H) (LiftE cm X.K W fa) (tCB (fun vs H Q => ∃ i j, vs = [V.int i, V.int j] ∧ ∀ p, H p = none → Q (.ref p) (upd H p (.rng i j))) (tCons (LiftE cm X.K W fl) (tCons (LiftE cm X.K W fh) tNil))) s H Q := by
    obtain ⟨m, p, st, re, rs, q⟩ := q
    refine ⟨m, p, st, re, rs, Post.split q fun d1 st1 m1 H1 v1 e1 x1 rs1 r1 q1 => ?_⟩
    refine ⟨m1, p, st1, re.ext rs x1, rs1, Post.split q1 fun d2 st2 m2 H2 v2 e2 x2 rs2 r2 q2 => ?_⟩
    refine ⟨m2, p, st2, (re.ext rs x1).ext rs1 x2, rs2, Post.split q2 fun d3 st3 m3 H3 v3 e3 x3 rs3 r3 q3 => ?_⟩
    cases d1 with
    | int i =>
      cases d2 with
      | int lo =>
        cases d3 with
        | int hi =>
          simp only [RV] at r1 r2 r3
          subst r1 r2 r3
          exact ⟨lo, hi, rfl, fun pl hp => ⟨i, pl, lo, hi, rfl, rfl, upd_same, q3 m3 _ _ (Ext.refl.touch hp) (rs3.beside hp) (by simp [RV])⟩⟩
        | _ => exact q3.elim
      | _ => exact q3.elim
    | _ => exact q3.elim
theorem de_inRg {neg : Bool} {a l h : Expr} {fa fl fh : EF} {pf pos1 pos : Pos} (hg : Gl X "range") (hm : X.mg "range" = none) (ha : DE cm W X a fa) (hl : DE cm W X l fl) (hh : DE cm W X h fh)
    (he : starEach [l, h] X.env = (false, eval l X.env) :: starEach [h] X.env := by rfl) (he2 : starEach [h] X.env = (false, eval h X.env) :: starEach [] X.env := by rfl) (hpl : (backTo pos1 (starEach [h] X.env)).any (·.1) = false := by rfl)
    (hb : behindInMarks (if neg = true then .NotIn else .In) (.Call (.Name "range" pf) [l, h] [] pos1) = false := by rfl) :
    DE cm W X (.Compare a [if neg = true then .NotIn else .In] [.Call (.Name "range" pf) [l, h] [] pos1] pos) (inRgF neg fa fl fh) :=
  peI (pe_cmpR op_rg ha (pe_callTy cr_range2 hg hm (by decide +kernel) (pa_cons hl (pa_cons hh pa_nil he2) he) (by decide) (by decide) he hpl) hb) fun s H Q q => inRg_split (a := a) (l := l) (h := h) q
theorem dt_inRg {neg : Bool} {a l h : Expr} {fa fl fh : EF} {pf pos1 pos : Pos} (hg : Gl X "range") (hm : X.mg "range" = none) (ha : DE cm W X a fa) (hl : DE cm W X l fl) (hh : DE cm W X h fh)
    (he : starEach [l, h] X.env = (false, eval l X.env) :: starEach [h] X.env := by rfl) (he2 : starEach [h] X.env = (false, eval h X.env) :: starEach [] X.env := by rfl) (hpl : (backTo pos1 (starEach [h] X.env)).any (·.1) = false := by rfl)
    (hb : behindInMarks (if neg = true then .NotIn else .In) (.Call (.Name "range" pf) [l, h] [] pos1) = false := by rfl) :
    DT cm W X (.Compare a [if neg = true then .NotIn else .In] [.Call (.Name "range" pf) [l, h] [] pos1] pos) (tVal (inRgF neg fa fl fh)) :=
  dt_of (t := LiftE cm X.K W fa) (ptI (pt_cmpR op_rg ha (pe_callTy cr_range2 hg hm (by decide +kernel) (pa_cons hl (pa_cons hh pa_nil he2) he) (by decide) (by decide) he hpl) hb) fun s H Q q => inRg_split (a := a) (l := l) (h := h) q)
end
/-- no claim -/
def eBad : EF := fun _ _ => .bad
theorem de_bad {cm : Str → Option Value} {W : WX} {X : Cx} {e : Expr} : DE cm W X e eBad := ⟨fun _ _ _ _ _ _ ⟨_, _, _, _, _, h⟩ => h.elim⟩
end Mi
set_option Elab.async false
set_option linter.all false
set_option maxRecDepth 100000
set_option maxHeartbeats 4000000
/-! Mi18: str.replace of written texts: behind a written text a token is out. -/
namespace Mi
open PySem PySem.Spec L2
open PyProof.Rows hiding St
def DET (cm : Str → Option Value) (W : WX) (X : Cx) (e : Expr) (f : EF) : Prop := PET X e (LiftE cm X.K W f)
def DAT (cm : Str → Option Value) (W : WX) (X : Cx) (es : List Expr) (f : AF) : Prop := PAT X es (LiftA cm X.K W f)
def DST (cm : Str → Option Value) (W : WX) (X : Cx) (s : Stmt) (f : SF) : Prop := PST X s (LiftS cm X.K W f)
def DSsT (cm : Str → Option Value) (W : WX) (X : Cx) (s : List Stmt) (f : SF) : Prop := PSsT X s (LiftS cm X.K W f)
/-- behind it a token is out -/
def PE1 (X : Cx) (e : Expr) (t : TE) : Prop := ∀ (pins : List (Addr × Obj)) (s : Shared) (σ : L2.St) (H : Hp) (Q : VK), Inv X pins σ H s → t σ H Q → wpAny (model X.prog X.w) X.A (eval e X.env) (fun v s' => EP X pins σ Q v s' ∧ 1 ≤ s'.toks) X.xe s
def DE1 (cm : Str → Option Value) (W : WX) (X : Cx) (e : Expr) (f : EF) : Prop := PE1 X e (LiftE cm X.K W f)
def replF (y z : Str) : D → Store → Option (D × Store) := fun d st => match d with
  | .str x => if x.length + (x.length + 1) * z.length ≤ 16777216 then some (.str (Txt.replace x y z), st) else none
  | _ => none
section
variable {cm : Str → Option Value} {W : WX} {X : Cx} {a b e : Expr} {es : List Expr} {fa fb fe : EF} {fs : AF} {pos : Pos} {f g : SF} {s1 : Stmt} {ss : List Stmt}
theorem petI {t t' : TE} (h : PET X e t) (i : ∀ s H Q, t' s H Q → t s H Q) : PET X e t' := fun pins s σ H Q h0 I q => h pins s σ H Q h0 I (i _ _ _ q)
theorem patI {t t' : TA} (h : PAT X es t) (i : ∀ s H Q, t' s H Q → t s H Q) : PAT X es t' := fun pos pins s σ H Q h0 I q => h pos pins s σ H Q h0 I (i _ _ _ q)
theorem pstI {t t' : TS} (h : PST X s1 t) (i : ∀ D s H, t' D s H → t D s H) : PST X s1 t' := fun pins s σ H Q h0 I q => h pins s σ H Q h0 I (i _ _ _ q)
theorem psstI {t t' : TS} (h : PSsT X ss t) (i : ∀ D s H, t' D s H → t D s H) : PSsT X ss t' := fun pins s σ H Q h0 I q => h pins s σ H Q h0 I (i _ _ _ q)
theorem det_of (h : DE cm W X e fe) : DET cm W X e fe := CwR.PET.of h
theorem dst_of (h : DS cm W X s1 f) : DST cm W X s1 f := PST.of h
theorem dsst_of (h : DSs cm W X ss f) : DSsT cm W X ss f := PSsT.of h
theorem dat_nil : DAT cm W X [] aNil := fun pos pins s σ H Q _ I h => da_nil.run pos pins s σ H Q I h
theorem dat_cons (ha : DET cm W X a fa) (hr : DAT cm W X es fs) (hs : starEach (a :: es) X.env = (false, eval a X.env) :: starEach es X.env := by rfl) : DAT cm W X (a :: es) (aCons fa fs) := patI (pat_cons ha hr hs) fun s H Q h => by
  obtain ⟨m, p, st, re, rs, h⟩ := h
  refine ⟨m, p, st, re, rs, Post.split h fun d1 st1 m1 H1 v1 e1 x1 rs1 r1 h1 => ?_⟩
  refine ⟨m1, p, st1, re.ext rs x1, rs1, Post.split h1 fun d2 st2 m2 H2 v2 e2 x2 rs2 r2 h2 => ?_⟩
  exact h2 m2 H2 _ Ext.refl rs2 (RVs.cons (RV.ext rs1 x2 _ r1) r2)
theorem lst_split {s : L2.St} {H : Hp} {Q : VK} (h : LiftE cm X.K W (eB mkLst fs) s H Q) : tLst (LiftA cm X.K W fs) s H Q := by
  obtain ⟨m, p, st, re, rs, h⟩ := h
  refine ⟨m, p, st, re, rs, Post.split h fun d1 st1 m1 H1 v1 e1 x1 rs1 r1 h1 => ?_⟩
  have h1 := PostO.of h1
  unfold mkLst at h1
  split at h1
  · rename_i hz
    exact ⟨by rw [← r1.len]; exact ofLim hz, fun q hq => postO_lst rs1 h1 hq r1⟩
  · exact h1.elim
theorem det_lst (h : DAT cm W X es fs) : DET cm W X (.List es pos) (eB mkLst fs) := petI (pet_lst h) fun s H Q h => lst_split h
theorem det_op {op : Operator} {g : D → D → Store → Option (D × Store)} (ho : OpS X (binaryOp op) g) (ha : DET cm W X a fa) (hb : DET cm W X b fb) : DET cm W X (.BinOp a op b pos) (eOp g fa fb) :=
  petI (CwR.pet_op ho ha hb) fun s H Q h => by
    obtain ⟨m, p, st, re, rs, h⟩ := h
    refine ⟨m, p, st, re, rs, Post.split h fun d1 st1 m1 H1 v1 e1 x1 rs1 r1 h1 => ?_⟩
    refine ⟨m1, p, st1, re.ext rs x1, rs1, Post.split h1 fun d2 st2 m2 H2 v2 e2 x2 rs2 r2 h2 => ?_⟩
    exact ⟨m2, st2, d1, d2, rs2, RV.ext rs1 x2 _ r1, r2, PostO.of h2⟩
theorem pet_ix {r : R2} {ta tb : TE} (hr : IxR X r) (ha : PET X a ta) (hb : PET X b tb) (hs : PlainIx b) : PET X (.Subscript a b pos) (tOp r ta tb) := by
  intro pins s σ H Q h0 I h
  refine Subscript_ (wpAny_mono (PySem.wpAny_toks (ha pins s σ H _ h0 I h)) (fun v s1 q => ?_) fun _ _ z => z.2)
  obtain ⟨hk, x, H1, I1, r1, q1⟩ := q
  exact thn (hb pins s1 σ H1 _ (Nat.le_trans h0 hk) I1 q1) fun u s2 ⟨y, H2, I2, r2, q2⟩ => hr a b pins s2 σ H2 x y v u Q I2 r1 r2 q2 (hs _ _)
theorem det_ix {g : D → D → Store → Option (D × Store)} (hr : IxS X g) (ha : DET cm W X a fa) (hb : DET cm W X b fb) (hs : PlainIx b := by intro _ _; rfl) : DET cm W X (.Subscript a b pos) (eOp g fa fb) :=
  petI (pet_ix hr ha hb hs) fun s H Q h => by
    obtain ⟨m, p, st, re, rs, h⟩ := h
    refine ⟨m, p, st, re, rs, Post.split h fun d1 st1 m1 H1 v1 e1 x1 rs1 r1 h1 => ?_⟩
    refine ⟨m1, p, st1, re.ext rs x1, rs1, Post.split h1 fun d2 st2 m2 H2 v2 e2 x2 rs2 r2 h2 => ?_⟩
    exact ⟨m2, st2, d1, d2, rs2, RV.ext rs1 x2 _ r1, r2, PostO.of h2⟩
theorem dst_ret (he : DET cm W X e fe) : DST cm W X (.Return (some e) pos) (sRet fe) := pstI (CwR.pst_ret he) fun D s H h => by
  obtain ⟨m, p, st, re, rs, h⟩ := h
  exact ⟨m, p, st, re, rs, PostS.split re rs h fun d st1 m1 H1 v e1 x1 rs1 r1 h1 => h1 m1 H1 v Ext.refl rs1 r1⟩
theorem dsst_cons (h1 : DST cm W X s1 f) (h2 : DSsT cm W X ss g) : DSsT cm W X (s1 :: ss) (sSeq f g) := psstI (psst_cons h1 h2) fun D s H h => by
  obtain ⟨m, p, st, re, rs, h⟩ := h
  exact ⟨m, p, st, re, rs, seq_post h⟩
theorem dsst_one (h1 : DST cm W X s1 f) : DSsT cm W X [s1] f := CwR.psst_one h1
/-- e.replace(y, z), written texts -/
theorem det_repl {y z : Str} {j k : Nat} {c0 c1 apos : Pos} (he : DE cm W X e fe) (hyz : (y == z) = false := by decide)
    (hst : starEach [.Constant (.str y) j c0, .Constant (.str z) k c1] X.env = [(false, eval (.Constant (.str y) j c0) X.env), (false, eval (.Constant (.str z) k c1) X.env)] := by rfl)
    (hbase : attributeBase e "replace" X.env (eval e X.env) = eval e X.env := by rfl) (hline : (apos.endLine == pos.line) = true := by rfl) :
    DET cm W X (.Call (.Attribute e "replace" apos) [.Constant (.str y) j c0, .Constant (.str z) k c1] [] pos) (eUn (replF y z) fe) :=
  petI (CwR.pet_replC he hyz hst hbase hline) fun s H Q h => by
    obtain ⟨m, p, st, re, rs, h⟩ := h
    refine ⟨m, p, st, re, rs, Post.split h fun d st1 m1 H1 v1 e1 x1 rs1 r1 h1 => ?_⟩
    have g1 := PostO.of h1
    clear h1
    cases d with
    | str x =>
      simp only [RV] at r1
      subst r1
      simp only [replF] at g1
      split at g1
      · rename_i hz
        exact ⟨x, rfl, hz, g1 m1 H1 _ Ext.refl rs1 (by simp [RV])⟩
      · exact g1.elim
    | _ => exact g1.elim
/-- [written text, ..]: a token is out behind it -/
theorem de1_lst {c : Str} {j : Nat} {cp : Pos} (ha : DA cm W X es fs) : DE1 cm W X (.List (.Constant (.str c) j cp :: es) pos) (eB mkLst (aCons (eC (.str c)) fs)) := by
  intro pins s σ H Q I h
  have h := lst_split h
  have h2 : LiftA cm X.K W fs σ H fun xs H1 => (V.str c :: xs).length ≤ sizeLine ∧ ∀ p, H1 p = none → Q (.ref p) (upd H1 p (.lst (V.str c :: xs))) := by
    obtain ⟨m, p, st, re, rs, h⟩ := h
    refine ⟨m, p, st, re, rs, Post.split (rel := RVs X.K) (by exact h) fun d2 st2 m2 H2 v2 e2 x2 rs2 r2 q2 => ?_⟩
    exact q2 m2 H2 _ Ext.refl rs2 (RVs.cons (v := V.str c) (by simp [RV]) r2)
  refine wpAny_List_spliced ?_
  show wpAny _ _ (spliced ((false, eval (.Constant (.str c) j cp) X.env) :: backTo pos (starEach es X.env))) _ _ s
  refine Calls.spliced_cons (Calls.Constant_str ?_)
  refine wpAny_mono (PySem.wpAny_toks (ha.run pos pins { s with toks := s.toks + 1 } σ H _ (I.tok _) h2)) (fun us s1 q => ?_) fun _ _ z => z.2
  obtain ⟨hk, xs, H1, I1, r, z, q⟩ := q
  have hk : s.toks + 1 ≤ s1.toks := hk
  have rr : Vals (V.str c :: xs) (Value.str c s.toks :: us) := .cons ⟨_, rfl⟩ r
  refine ⟨by rw [← rr.length]; exact z, ⟨.ref s1.heap.objs.size, upd H1 s1.heap.objs.size (.lst (V.str c :: xs)), I1.laid (t' := s1.toks) (fun b u e => Heap.get?_push_of_some _ e) (Nat.le_refl _) ?_, rfl, q _ (I1.hok.fresh (Nat.le_refl _))⟩, by show 1 ≤ s1.toks; omega⟩
  exact ⟨z, _, 0, rr, Heap.get?_push_size _ rfl⟩
/-- a name is bound to what brings a token out -/
theorem dss_tok {i : Nat} {x : Str} {pos' : Pos} (hN : X.N.Nodup) (he : DE1 cm W X e fe) (h2 : DSsT cm W X ss g) (hi : X.N[i]? = some x := by rfl) (hx : Loc X.env.scope x := by first | exact Or.inl rfl | exact Or.inr rfl)
    (hs : swapsWith e (some (.Name x pos')) pos.line X.env = pure false := by rfl) (hf : X.fn x = true ∨ X.env.scope.names.lookup x = some .local := by first | exact .inl rfl | exact .inr rfl | assumption) :
    DSs cm W X (.Assign [.Name x pos'] e pos :: ss) (sSeq (sAsg fe (gNameF i)) g) := by
  refine ⟨fun pins s σ H D I h => ?_⟩
  obtain ⟨m, p, st, re, rs, h⟩ := h
  have h3 := seq_post h
  have hL : LiftE cm X.K W fe σ H fun y H1 => LiftS cm X.K W g D (σ.set i (some y)) H1 := by
    refine ⟨m, p, st, re, rs, PostS.split re rs h3 fun d st1 m1 H1 v e1 x1 rs1 r1 h1 => ?_⟩
    exact h1 m1 H1 _ Ext.refl rs1 ((re.ext rs x1).set (by rw [I.len]; exact (List.getElem?_eq_some_iff.mp hi).1) r1)
  refine wpAny_execs_cons (wpAny_Assign_Name (wpAny_mono (he pins s σ H _ I hL) (fun v s1 q => ?_) fun _ _ z => z) hs)
  obtain ⟨⟨y, H1, I1, r1, q1⟩, hk⟩ := q
  refine wpAny_mono (PySem.wpAny_toks (store_ok (Q := fun _ s2 => Inv X pins (σ.set i (some y)) H1 s2) I1 hN hi hx r1 (fun _ I2 => I2) hf)) (fun _ s2 q => ?_) fun _ _ z => z.2
  exact h2 pins s2 _ H1 D (Nat.le_trans hk q.1) q.2 q1
end
end Mi
set_option Elab.async false
set_option linter.all false
set_option maxRecDepth 100000
set_option maxHeartbeats 4000000
/-! Mi19: own errors as values, over ValueError and over KeyError, made by position and by name: over the heap. -/
namespace Mi
open PySem PySem.F
section
variable {M : Model} {A : Around} {E : Value → Shared → Prop} {h : Heap} {g : Array GenState} {d : Drawn} {t : Nat} {os : OsState}
variable {nm q : Str} {C N : Addr} {bs bm bmB : List Value} {hdct : Bool} {sn : List Str} {sub : List Value} {ab : Bool} {col : Option Bool} {dd : Option Addr} {k0 k1 k2 k3 k5 : Option Value} {B newId initId : String}
/-- the check of B.__new__(C, ..) -/
theorem ck_new (F : ExcBaseFacts B newId initId bmB) (hB : bm.contains (.type B) = true) {rest : List Value} {kw : List (Str × Value)} {Q : Unit → Shared → Prop}
    (hC : h.get? C = some (excClassObj nm q C N bs bm hdct sn sub ab col dd k0 k1 k2 k3 k5 newId)) (hq : Q () ⟨h, g, d, t, os⟩) : wpAny M A (checkBuiltinCall newId ⟨.ref C :: rest, kw⟩) Q E ⟨h, g, d, t, os⟩ := by
  have hcont : (Value.ref C :: bm).contains (.type B) = true := by rw [List.contains_cons, hB, Bool.or_true]
  have hstar := F.noStar
  simp only [checkBuiltinCall, F.newKind, F.newSplit, F.newRow]
  repeat (first | refine wpAny_loadPart_at hC ?_ | (refine wpAny_isSubtype_exc hC ?_; rw [hcont]) | refine wpAny_staticBase_exc hC ?_ | refine wpAny_madeBy_exc hC ?_ | simp only [bne_self_eq_false, Bool.false_eq_true, if_false] | wp_step)
  exact hq
end
end Mi
namespace Mi
open PySem PySem.F PySem.HandSPX
section
variable {prog : Program} {w : World} {A : Around} {E : Value → Shared → Prop} {R : Result → Shared → Prop} {h : Heap} {g : Array GenState} {d : Drawn} {t : Nat} {os : OsState}
variable {nm q : Str} {C N : Addr} {bs bm bmB : List Value} {hdct : Bool} {sn : List Str} {sub : List Value} {ab : Bool} {col : Option Bool} {dd : Option Addr} {k0 k1 k2 k3 k5 : Option Value} {B newId initId : String}
theorem rn_new (F : ExcBaseFacts B newId initId bmB) (hB : bm.contains (.type B) = true) (hA : bm.contains (.type "AttributeError") = false) (hN : bm.contains (.type "NameError") = false) {rest : List Value} {kw : List (Str × Value)}
    (hC : h.get? C = some (excClassObj nm q C N bs bm hdct sn sub ab col dd k0 k1 k2 k3 k5 newId))
    (hq : R (.ok (.ret (.ref (h.objs.size + 1)))) ⟨(h.push { cls := .type "tuple", data := .seq rest.toArray }).push { cls := .ref C, data := .fields #[.ref h.objs.size, .none, .none, .none, .bool false, .none] }, g, d, t, os⟩) (hrest : rest.length ≤ sizeLine) :
    codeAny (model prog w) A (.builtin newId ⟨.ref C :: rest, kw⟩) R ⟨h, g, d, t, os⟩ := by
  have hends := F.ends
  have hcB : (Value.ref C :: bm).contains (.type B) = true := by rw [List.contains_cons, hB, Bool.or_true]
  have hcA : (Value.ref C :: bm).contains (.type "AttributeError") = false := by rw [List.contains_cons, hA]; rfl
  have hcN : (Value.ref C :: bm).contains (.type "NameError") = false := by rw [List.contains_cons, hN]; rfl
  refine codeAny_builtinAt F.entry ?_
  unfold Builtin.«BaseException.__new__»
  refine wpAt_bind ?_
  show wpAt _ _ _ (stack >>= _) _ _ _
  refine wpAt_bind (wpAt_stack fun p below => wpAt_of_wpAny ?_)
  wp_walk
  refine wpAt_of_wpAny ?_
  rw [F.owner]
  repeat (first | with_reducible refine wpAny_madeHere_exc F.canon hC ?_ | with_reducible refine wpAny_loadPart_at hC ?_ | (with_reducible refine wpAny_isSubtype_exc hC ?_; first | rw [hcB] | rw [hcA] | rw [hcN]) | wp_step)
  show R _ _
  rw [Heap.size_push]
  exact hq
theorem ty_call (F : ExcBaseFacts B newId initId bmB) (hB : bm.contains (.type B) = true) (hA : bm.contains (.type "AttributeError") = false) (hN : bm.contains (.type "NameError") = false) {rest : List Value} {kw : List (Str × Value)} {fI : Addr} {Q : Fin → Shared → Prop}
    (hC : h.get? C = some (excClassObj nm q C N bs bm hdct sn sub ab col dd k0 k1 k2 k3 k5 newId))
    (hi : W.Looks (model prog w) h (typeLookup (.ref C) "__init__") (some (.ref fI))) (hb : ∀ self, W.Looks (model prog w) h (bindSpecial (.ref fI) self) (.ref fI, [self])) (hrest : rest.length ≤ sizeLine)
    (hq : codeAny (model prog w) A (.call (.ref fI) ⟨.ref (h.objs.size + 1) :: rest, kw⟩)
      (fun r s' => match r with | .ok (.ret v) => v = .none ∧ Q (.done (.ret (.ref (h.objs.size + 1)))) s' | .ok _ => False | .error e => E e s')
      ⟨(h.push (W.kdv_tup rest)).push (excO C h.objs.size), g, d, t, os⟩) :
    wpAny (model prog w) A (Builtin.«type.__call__» ⟨.ref C :: rest, kw⟩) Q E ⟨h, g, d, t, os⟩ := by
  repeat (first | with_reducible refine wpAny_loadPart_at hC ?_ | with_reducible refine wpAny_madeBy_exc hC ?_ | wp_step)
  refine codeAny_call_builtin_code (Code.quiet_builtin _ F.quiet) (ck_new F hB hC ?_)
  refine rn_new F hB hA hN hC ?_ hrest
  show wpAny _ _ _ _ _ _
  have k : ∀ b o, h.get? b = some o → ((h.push (W.kdv_tup rest)).push (excO C h.objs.size)).get? b = some o := fun b o e => Heap.get?_push_of_some _ (Heap.get?_push_of_some _ e)
  have hC₁ := k _ _ hC
  have hget : ((h.push (W.kdv_tup rest)).push (excO C h.objs.size)).get? (h.objs.size + 1) = some (excO C h.objs.size) := by heap_get
  have hcC : (Value.ref C :: bm).contains (.ref C) = true := by simp
  have i1 := hi.keeps k
  have b1 := (hb (.ref (h.objs.size + 1))).keeps k
  unfold isInstance
  repeat (first | with_reducible refine wpAny_loadPart_at hget ?_ | (with_reducible refine wpAny_isSubtype_exc hC₁ ?_; rw [hcC]) | wp_step)
  show wpAny _ _ (typeLookup (.ref C) _) _ _ _
  refine i1.at ?_
  refine wpAny_holding (wpAny_bind (b1.at ?_))
  refine wpAny_bind (wpAny_call (codeAny_mono hq fun r s' z => ?_))
  rcases r with e | (v | _ | _ | _) <;> first | exact z | exact z.elim | skip
  obtain ⟨rfl, z⟩ := z
  first
    | exact wpAny_pure (wpAny_pure z)
    | (wp_walk; exact z)
end
end Mi
namespace Mi
open PySem PySem.F PySem.HandSPX
section
variable {prog : Program} {w : World} {A : Around} {E : Value → Shared → Prop} {R : Result → Shared → Prop} {h : Heap} {g : Array GenState} {d : Drawn} {t : Nat} {os : OsState}
variable {nm q : Str} {C N : Addr} {bs bm bmB : List Value} {hdct : Bool} {sn : List Str} {sub : List Value} {ab : Bool} {col : Option Bool} {dd : Option Addr} {k0 k1 k2 k3 k5 : Option Value} {B newId initId : String}
theorem cls_call (F : ExcBaseFacts B newId initId bmB) (hB : bm.contains (.type B) = true) (hA : bm.contains (.type "AttributeError") = false) (hN : bm.contains (.type "NameError") = false) {rest : List Value} {kw : List (Str × Value)} {fI : Addr}
    (hC : h.get? C = some (excClassObj nm q C N bs bm hdct sn sub ab col dd k0 k1 k2 k3 k5 newId))
    (hi : W.Looks (model prog w) h (typeLookup (.ref C) "__init__") (some (.ref fI))) (hb : ∀ self, W.Looks (model prog w) h (bindSpecial (.ref fI) self) (.ref fI, [self])) (hrest : rest.length ≤ sizeLine)
    (hq : codeAny (model prog w) (A.under (.builtin "type.__call__" ⟨.ref C :: rest, kw⟩)) (.call (.ref fI) ⟨.ref (h.objs.size + 1) :: rest, kw⟩) (W.InitBack (h.objs.size + 1) R)
      ⟨(h.push (W.kdv_tup rest)).push (excO C h.objs.size), g, d, t, os⟩) :
    codeAny (model prog w) A (.call (.ref C) ⟨rest, kw⟩) R ⟨h, g, d, t, os⟩ := by
  have f1 := tc_lookup
  have f2 := tc_bind (.ref C)
  have hTy : (⟨h, g, d, t, os⟩ : Shared).TypeIs (.ref C) "type" := ⟨_, hC, rfl⟩
  refine codeAny_of_tree ?_
  show wpAny _ _ (callAny (.ref C) _) _ _ _
  repeat (any_goals (first | assumption | with_reducible refine wpAny_loadPart_at hC ?_ | wp_step))
  refine ⟨rfl, ?_⟩
  refine codeAny_call_builtin_at (Code.quiet_builtin _ (by decide +kernel)) entry_typeCall (wpAny_check_type_call_sub hC (ty_call F hB hA hN hC hi hb hrest ?_))
  refine codeAny_mono hq fun r s' z => ?_
  rcases r with e | (v | _ | _ | _) <;> exact z
end
end Mi
namespace Mi
open PySem PySem.F PySem.HandSPX PySem.Calls PyProof.Rows
open Builtin Builtin.ObjectAttr
abbrev keTail : List Value := [.type "KeyError", .type "LookupError", .type "Exception", .type "BaseException", .type "object"]
theorem ke_pass (self : Value) : refuseLoop self "__setattr__" keTail = pure () := by kernel_rfl
theorem ke_pass1 {C : Addr} (self : Value) : refuseLoop self "__setattr__" (.ref C :: keTail) = pure () := by rw [refuseLoop_ref]; exact ke_pass self
section
variable {prog : Program} {w : World} {A : Around} {E : Value → Shared → Prop} {R : Result → Shared → Prop} {h hp : Heap} {g : Array GenState} {d : Drawn} {t : Nat} {os : OsState}
variable {nm q : Str} {C N : Addr} {bs bm : List Value} {hdct : Bool} {sn : List Str} {sub : List Value} {ab : Bool} {col : Option Bool} {dd : Option Addr} {k0 k1 k2 k3 k5 : Option Value} {newId : String}
/-- KeyError.__init__(e, ..) -/
theorem ke_init {e t0 : Addr} {rest : List Value} (hC : h.get? C = some (excClassObj nm q C N bs keTail hdct sn sub ab col dd k0 k1 k2 k3 k5 newId)) (he : h.get? e = some (excO C t0)) (hrest : rest.length ≤ sizeLine)
    (hq : ∀ h' t1, (∀ b o, b ≠ e → h.get? b = some o → h'.get? b = some o) → h'.get? e = some (excO C t1) → R (.ok (.ret .none)) ⟨h', g, d, t, os⟩) :
    codeAny (model prog w) A (.call (.builtin "KeyError.__init__") ⟨.ref e :: rest, []⟩) R ⟨h, g, d, t, os⟩ := by
  have F := PyProof.Rows.excClass_KeyError
  have hcB : (Value.ref C :: keTail).contains (.type "KeyError") = true := by rw [List.contains_cons, show keTail.contains (.type "KeyError") = true by decide +kernel, Bool.or_true]
  have hshort := F.notStar
  refine codeAny_call_builtin F.init.plain F.initEntry ?_
  · simp only [checkBuiltinCall, F.initKind, F.initSplit, F.initSig]
    repeat (first | with_reducible refine wpAny_loadPart_at he ?_ | with_reducible refine wpAny_loadPart_at hC ?_ | (with_reducible refine wpAny_isSubtype_exc hC ?_; rw [hcB]) | wp_step)
    refine wpAny_onRaise ?_
    rw [show ∀ (a b : String) (n : Nat), Bind.check ⟨.positional, "*", "KeyError", .self, [⟨"args", .varPos, false⟩]⟩ a b n (List.map (fun x => x.fst) ({ pos := Value.ref e :: rest } : Args).kw) = pure () from
      fun a b n => check_star_args _ _ _ _ _ _]
    refine wpAny_pure ?_
    wp_walk
    refine hq _ h.objs.size (fun b o hb ho => ?_) ?_
    · rw [Heap.get?_update_other _ _ (Ne.symm hb)]
      exact Heap.get?_push_of_some _ ho
    · rw [Heap.get?_update_self _ (Heap.get?_push_of_some _ he) rfl]
      rfl
/-- self.name = v on an error that has no dict yet: the mro is known to pass -/
theorem osa_gen {K : W.Frag} {name : Str} {tk : Tok} {v : Value} {x C : Addr} {fv : Array Value} {cd : ClassData}
    (X : K.In hp) (hx : hp.get? x = some { cls := .ref C, data := .fields fv }) (hcd : W.clsIn K C = some cd) (hm : ∀ self, refuseLoop self "__setattr__" cd.mro = pure ()) (ne : cd.mro.isEmpty = false) (hob : cd.mro.contains (.type "object") = true) (hh : cd.hasDict = true) (ha : W.findIn K (.ref C) name = some none)
    (hq : ∀ h' tk' dx, (∀ b o, b ≠ x → hp.get? b = some o → h'.get? b = some o) → hp.objs.size ≤ dx → dx ≠ x → h'.get? x = some { cls := .ref C, dict := some dx, data := .fields fv } →
      h'.Ns1 dx (fun y => if y = name then some v else none) → R (.ok (.ret .none)) ⟨h', g, d, tk', os⟩) :
    codeAny (model prog w) A (.call (.builtin "object.__setattr__") ⟨[.ref x, .str name tk, v], []⟩) R ⟨hp, g, d, t, os⟩ := by
  have I : W.InstAt hp x { cls := .ref C, data := .fields fv } C none := ⟨hx, rfl, rfl, trivial⟩
  have SF := F.store_object
  have hxs : x ≠ hp.objs.size := Nat.ne_of_lt (Heap.lt_size hx)
  have sub : W.Looks (model prog w) hp (isInstance (.ref x) (.type "object")) true := I.type.andThen (W.looks_mroIn X (by unfold W.mroIn; rw [hcd, Option.bind_some, if_neg (by rw [ne]; decide), hob]))
  refine codeAny_call_builtin SF.slot.plain SF.entry (@W.check_slot (model prog w) _ _ ⟨hp, g, d, t, os⟩ "object.__setattr__" "object" "__setattr__" (.ref x) [.str name tk, v] [] _ SF.kind SF.split sub (SF.args (.ref x) (.str name tk) v) ?_)
  have hmr : W.Looks (model prog w) hp (mroOf (.ref C)) cd.mro := (W.looks_clsIn X hcd).andThen .now
  have L3 : W.Looks (model prog w) hp (storeTaker? none) none := .now
  have hcls : W.Looks (model prog w) hp (classData C) cd := W.looks_clsIn X hcd
  rw [W.osa_eq, refuse_eq]
  refine wpAny_bind (wpAny_bind (I.type.at (wpAny_bind (hmr.at ?_))))
  rw [hm]
  refine wpAny_pure (wpAny_bind (I.type.at (wpAny_bind ((W.looks_findIn X ha).at (wpAny_bind (L3.at ?_))))))
  show wpAny _ _ (storeInOwnDict (.ref x) (.ref C) (.str name tk) name v false) _ _ _
  obtain ⟨nm, bs, mro, ns, qn, hd, sn, sb, ab, col, del⟩ := cd
  dsimp only at hh
  subst hh
  unfold storeInOwnDict ownDictForStores
  repeat (first | with_reducible refine store_in_new ?_ ?_ | with_reducible refine wpAny_loadPart_at hx ?_ | with_reducible refine hcls.at ?_ | wp_step)
  · exact ⟨_, #[], _, (Heap.get?_update_ne _ _ _ _ hxs.symm).trans (Heap.get?_push_at rfl rfl), rfl, fun e he => absurd he (by simp), fun _ => rfl⟩
  · intro h' tk' hn' hs
    have hx₁ : (hp.push { cls := .type "dict", data := .dict #[] }).get? x = some { cls := .ref C, data := .fields fv } := Heap.get?_push_of_some _ hx
    refine hq h' tk' hp.objs.size (fun b o hb ho => ?_) (Nat.le_refl _) hxs.symm ?_ hn'
    · exact (hs.2 b (Nat.ne_of_lt (Heap.lt_size ho))).trans ((Heap.get?_update_ne _ _ _ _ hb).trans (Heap.get?_push_of_some _ ho))
    · exact (hs.2 x hxs).trans (Heap.get?_update_self _ hx₁ rfl)
end
end Mi
namespace Mi
open PySem PySem.Spec L2
open PyProof.Rows hiding St
/-- an error class that may be called -/
structure EmC (K : PySem.W.Frag) (C : Addr) : Prop where
  cls : ∃ nm q N bs bm sn sub ab col dd k0 k1 k2 k3 k5 B newId initId bmB, K.lookup C = some (excClassObj nm q C N bs bm true sn sub ab col dd k0 k1 k2 k3 k5 newId) ∧ ExcBaseFacts B newId initId bmB ∧
    bm.contains (.type B) = true ∧ bm.contains (.type "AttributeError") = false ∧ bm.contains (.type "NameError") = false
  kC : PySem.W.keepIn K (.ref C) = true
/-- an error class straight over KeyError -/
structure KexC (K : PySem.W.Frag) (C : Addr) : Prop where
  cls : ∃ nm q N bs sn sub ab col dd k0 k1 k2 k3 k5, K.lookup C = some (excClassObj nm q C N bs keTail true sn sub ab col dd k0 k1 k2 k3 k5 "LookupError.__new__")
  sa : PySem.W.findIn K (.ref C) "__setattr__" = some (some (.builtin "object.__setattr__"))
  kC : PySem.W.keepIn K (.ref C) = true
theorem OexC.em {K : PySem.W.Frag} {C : Addr} (T : OexC K C) : EmC K C := by
  obtain ⟨nm, q, N, bs, bm, sn, sub, ab, col, dd, k0, k1, k2, k3, k5, hC, hbm⟩ := T.cls
  have c := fun Y => PySem.HandSPX.refsVE_contains Y bm hbm
  exact ⟨⟨nm, q, N, bs, bm, sn, sub, ab, col, dd, k0, k1, k2, k3, k5, _, _, _, _, hC, F.excBase_ValueError, (c _).trans (by decide +kernel), (c _).trans (by decide +kernel), (c _).trans (by decide +kernel)⟩, T.kC⟩
theorem KexC.em {K : PySem.W.Frag} {C : Addr} (T : KexC K C) : EmC K C := by
  obtain ⟨nm, q, N, bs, sn, sub, ab, col, dd, k0, k1, k2, k3, k5, hC⟩ := T.cls
  exact ⟨⟨nm, q, N, bs, keTail, sn, sub, ab, col, dd, k0, k1, k2, k3, k5, _, _, _, _, hC, F.excBase_LookupError, by decide +kernel, by decide +kernel, by decide +kernel⟩, T.kC⟩
section
variable {X : Cx} {pins : List (Addr × Obj)} {σ : L2.St} {H : Hp} {s : Shared} {C : Addr} {Q : VK}
/-- C(..): the error as a value -/
theorem run_err {CX : CXT} {k : Nat} {fI : Addr} {fd : FuncData} {ps : List Str} {sp : Sp} {us ys : List Value} {kw : List (Str × Value)} {zs : List V} (T : EmC X.K C) (iC : PySem.W.findIn X.K (.ref C) "__init__" = some (some (.ref fI))) (tI : PySem.W.typeIn X.K (.ref fI) = some (.type "function"))
    (F1 : FnOk X.prog X.w X.K X.mg X.base CX k fI fd ps sp) (hr : Room (k + 1) X.A) (hx : Passes CX X (fun _ _ _ => False)) (I : Inv X pins σ H s) (hus : us.length ≤ sizeLine) (r : Vals zs ys)
    (hb : ∀ (s : Shared) (a : Addr), BindsTo s fd ⟨.ref a :: us, kw⟩ (ps.zip (.ref a :: ys)))
    (h : ∀ a, H a = none → sp (.ref a :: zs) (upd H a (exo a C none)) (fun v H2 => v = .non ∧ Q (.ref a) H2) (fun _ _ _ => False)) :
    wpAny (model X.prog X.w) X.A (call (.ref C) us kw) (EP X pins σ Q) X.xe s := by
  obtain ⟨nm, q, N, bs, bm, sn, sub, ab, col, dd, k0, k1, k2, k3, k5, B, newId, initId, bmB, hC, FB, hB, hA, hN⟩ := T.cls
  obtain ⟨hp, g, dr, tk, os⟩ := s
  have hsz : hp.objs.size ≤ hp.objs.size + 1 := Nat.le_succ _
  have hn : H (hp.objs.size + 1) = none := I.hok.fresh hsz
  have hq := h (hp.objs.size + 1) hn
  have kk : ∀ b o, hp.get? b = some o → ((hp.push (PySem.W.kdv_tup us)).push (PySem.HandSPX.excO C hp.objs.size)).get? b = some o := fun b o e => Heap.get?_push_of_some _ (Heap.get?_push_of_some _ e)
  have hget : ((hp.push (PySem.W.kdv_tup us)).push (PySem.HandSPX.excO C hp.objs.size)).get? (hp.objs.size + 1) = some (PySem.HandSPX.excO C hp.objs.size) := by heap_get
  have I2 : Inv X pins σ (upd H (hp.objs.size + 1) (exo (hp.objs.size + 1) C none)) ⟨(hp.push (PySem.W.kdv_tup us)).push (PySem.HandSPX.excO C hp.objs.size), g, dr, tk, os⟩ :=
    I.laid (t' := tk) (a := hp.objs.size + 1) (o := exo (hp.objs.size + 1) C none) (h' := (hp.push (PySem.W.kdv_tup us)).push (PySem.HandSPX.excO C hp.objs.size)) kk hsz (exo_ok hget)
  have r2 : Vals (V.ref (hp.objs.size + 1) :: zs) (Value.ref (hp.objs.size + 1) :: ys) := .cons rfl r
  refine wpAny_call (cls_call FB hB hA hN (I.kIn _ _ hC) (PySem.W.looks_findIn I.kIn iC) (fun self => PySem.W.bind_fn I.kIn self tI) hus
    (codeAny_mono (F1.run _ X.stack _ _ ⟨Value.ref (hp.objs.size + 1) :: us, kw⟩ (Value.ref (hp.objs.size + 1) :: ys) _ _ (fun _ _ _ => False) (hr.make C us kw) (I2.env0.make C us kw) (hb _ _) r2 hq) fun r s' hq' => ?_))
  cases r with
  | error er => exact hx pins σ _ _ er s' I2 hq'
  | ok fl =>
    cases fl with
    | ret u =>
      obtain ⟨v, H', I3, rv, ev, q3⟩ := I2.after hq'
      subst ev
      exact ⟨rv, ⟨V.ref (hp.objs.size + 1), H', I3, rfl, q3⟩⟩
    | next => exact False.elim hq'
    | brk => exact False.elim hq'
    | cont => exact False.elim hq'
/-- the dict of an error is from now on kept as it is -/
theorem Inv.shut {d : Addr} {fs : List (Str × V)} (I : Inv X pins σ H s) (ed : H d = some (exd d fs)) : Inv X pins σ (upd H d (.xd fs)) s := by
  obtain ⟨mA, hns, rel⟩ := exd_at I.hok ed
  have hd : ∃ o, s.heap.get? d = some o := by
    obtain ⟨o, _, _, e', _⟩ := hns
    exact ⟨o, e'⟩
  exact I.write (t' := s.toks) (x := d) (e := d) (o := .xd fs) (h' := s.heap) (by rw [ed]; exact True.intro) (.inl rfl) (fun _ _ _ e => e) hd ⟨mA, hns, rel⟩
end
end Mi
namespace Mi
open PySem PySem.Spec L2
open PyProof.Rows hiding St
theorem typ_KE : typeOf (.type "KeyError") = pure (.type "type") := by kernel_rfl
section
variable {X : Cx} {pins : List (Addr × Obj)} {σ : L2.St} {H : Hp} {s : Shared} {a C dx : Addr} {f : Str} {y : V} {u : Value} {fs : List (Str × V)} {E : Value → Shared → Prop} {A : Around}
/-- self.f = y, the first one, of an error over KeyError -/
theorem kst_new {Q : Unit → Shared → Prop} (T : KexC X.K C) (I : Inv X pins σ H s) (e : H a = some (exo a C none)) (hno : PySem.W.findIn X.K (.ref C) f = some none) (ry : RelV y u)
    (h : ∀ dx s', H dx = none → dx ≠ a → Inv X pins σ (upd (upd H dx (exd dx [(f, y)])) a (exo a C (some dx))) s' → Q () s') : wpAny (model X.prog X.w) A (setAttr (.ref a) f u) Q E s := by
  obtain ⟨nm, q, N, bs, sn, sub, ab, col, dd, k0, k1, k2, k3, k5, hC⟩ := T.cls
  have hcl : PySem.W.clsIn X.K C = some { name := nm, bases := bs, mro := .ref C :: keTail, ns := N, qualname := q, hasDict := true, slotNames := sn, subclasses := sub, abstract := ab, collection := col, hasDel := false } := by unfold PySem.W.clsIn; rw [hC] <;> rfl
  obtain ⟨t1, ho⟩ := exo_at I.hok e
  obtain ⟨hp, g, d, t, os⟩ := s
  refine PySem.W.set_plain I.kIn (ox := { cls := .ref C, dict := none, data := .fields #[.ref t1, .none, .none, .none, .bool false, .none] }) (od := none) ⟨ho, rfl, rfl, trivial⟩ T.sa ?_
  refine osa_gen I.kIn ho hcl (fun self => ?_) rfl (by rw [List.contains_cons, show keTail.contains (.type "object") = true by decide +kernel, Bool.or_true]) rfl hno (fun h' tk' dx k dn dne hx hn => ?_)
  · exact ke_pass1 self
  have hnd : H dx = none := I.hok.fresh dn
  have nd : ∀ {b : Addr} {o : Obj}, hp.get? b = some o → b ≠ dx := fun {b o} q => Nat.ne_of_lt (Nat.lt_of_lt_of_le (Heap.lt_size q) dn)
  have na : ∀ {b : Addr}, H b = none → b ≠ a := fun {b} n z => by
    rw [z, e] at n
    cases n
  have Un1 : Un X.fs [] H (upd (upd H dx (exd dx [(f, y)])) a (exo a C (some dx))) hp h' := {
    keep := fun b o q n _ _ => k b o (na n) q
    slot := fun b o q n _ _ => ⟨o.slots, k b o (na n) q⟩
    free := fun b o q n _ => by rw [upd_ne (na n), upd_ne (nd q)]; exact n
    there := fun b o q _ => by
      by_cases hb : b = a
      · exact ⟨_, by rw [hb]; exact hx⟩
      · exact ⟨o, k b o hb q⟩
    tups := fun b xs q => by rw [upd_ne (at_ne e q exo_tup), upd_ne (ne_of_none q hnd)]; exact q
    frzs := fun b o v q => by rw [upd_ne (at_ne e q exo_frz), upd_ne (ne_of_none q hnd)]; exact q
    tbls := fun b ps q => ⟨#[], by rw [upd_ne (at_ne e q exo_tbl), upd_ne (ne_of_none q hnd), q]; simp⟩ }
  refine h dx _ hnd dne (I.un (t' := tk') Un1 fun b o q => ?_)
  by_cases hb : b = a
  · subst hb
    rw [upd_same] at q
    cases q
    exact exo_ok hx
  · rw [upd_ne hb] at q
    by_cases hd : b = dx
    · subst hd
      rw [upd_same] at q
      cases q
      exact exd_ok hn (relO_put (fs := []) ry fun g => True.intro)
    · rw [upd_ne hd] at q
      exact (I.hok b o q).stay (fun c v hc z => k c v (by
          rcases hc with hc | hc
          · rw [hc]
            exact hb
          · exact at_ne e hc exo_own) z)
        (fun c hc => by rw [upd_ne (at_ne e hc exo_own), upd_ne (ne_of_none hc hnd)]; exact hc) (fun c xs hc => by rw [upd_ne (at_ne e hc exo_tup), upd_ne (ne_of_none hc hnd)]; exact hc)
/-- KeyError.__init__(self, ..): nothing of it is told -/
theorem kinit_ok {us : List Value} {Q : Value → Shared → Prop} (T : KexC X.K C) (I : Inv X pins σ H s) (e : H a = some (exo a C none)) (hl : us.length ≤ sizeLine) (h : ∀ s', Inv X pins σ H s' → Q .none s') :
    wpAny (model X.prog X.w) A (call (.builtin "KeyError.__init__") (.ref a :: us)) Q E s := by
  obtain ⟨nm, q, N, bs, sn, sub, ab, col, dd, k0, k1, k2, k3, k5, hC⟩ := T.cls
  obtain ⟨t1, ho⟩ := exo_at I.hok e
  obtain ⟨hp, g, d, t, os⟩ := s
  refine wpAny_call (ke_init (I.kIn _ _ hC) ho hl fun h' t2 k hx => ?_)
  have J := I.write (t' := t) (x := a) (e := a) (o := exo a C none) (by rw [e]; exact True.intro) (.inl rfl) k ⟨_, hx⟩ (exo_ok hx)
  have eu : upd H a (exo a C none) = H := by
    funext b
    by_cases hb : b = a
    · rw [hb, upd_same, e]
    · rw [upd_ne hb]
  rw [eu] at J
  exact h _ J
end
/-- KeyError.__init__(self, ..) -/
def tKeI (K : PySem.W.Frag) (ta : TA) : TE := fun σ H Q => ta σ H fun vs H1 => ∃ (a C : Addr) (ws : List V), vs = .ref a :: ws ∧ ws.length ≤ 1000 ∧ KexC K C ∧ H1 a = some (exo a C none) ∧ Q .non H1
/-- self.f = e -/
def tKst (K : PySem.W.Frag) (f : Str) (to te : TE) : TS := fun D σ H => te σ H fun y H1 => to σ H1 fun x H2 => ∃ a C : Addr, x = .ref a ∧ KexC K C ∧ PySem.W.findIn K (.ref C) f = some none ∧
  (H2 a = some (exo a C none) ∧ ∀ dx, H2 dx = none → dx ≠ a → D.nx σ (upd (upd H2 dx (exd dx [(f, y)])) a (exo a C (some dx))))
section
variable {X : Cx} {o e : Expr} {es : List Expr} {to te : TE} {ta : TA} {f : Str} {p p' p1 p2 pos : Pos}
theorem pe_keinit {pl : Sem Bool} (hg : Gl X "KeyError") (hm : X.mg "KeyError" = none) (vV : PySem.W.findCls X.K (.type "KeyError") (.type "type") "__init__" = some (.val (.builtin "KeyError.__init__"))) (ha : PA X (e :: es) ta)
    (hc : eval (.Call (.Attribute (.Name "KeyError" p1) "__init__" p2) (e :: es) [] pos) X.env = (do
      let ov ← eval (.Name "KeyError" p1) X.env
      standAt p2.atName
      let (f, first) ← holding [ov] (getMethod ov "__init__" pl)
      callWith pos f first (backTo pos (starEach (e :: es) X.env)) (backToKw pos (keywordEach [] X.env))) := by rfl)
    (he : starEach (e :: es) X.env = (false, eval e X.env) :: starEach es X.env := by rfl) (hpl : (backTo pos (starEach es X.env)).any (·.1) = false := by rfl) :
    PE X (.Call (.Attribute (.Name "KeyError" p1) "__init__" p2) (e :: es) [] pos) (tKeI X.K ta) := by
  refine ⟨fun pins s σ H Q I h => ?_⟩
  refine PySem.W.methodCall_KW (ld_blt I hg hm boot_KeyError ?_ (by decide) (by decide)) hc
  obtain ⟨m, fr⟩ := I.fr
  refine PySem.W.method_type fr I.ok.mod.kin typ_KE (by decide +kernel) vV (by decide +kernel) ?_
  show wpAny _ _ (callWith pos (Value.builtin "KeyError.__init__") [] (backTo pos (starEach (e :: es) X.env)) []) _ _ _
  refine PyProof.Rows.callWith_method1 (thn (ha.run pos pins _ σ H _ (I.tok _) h) fun us s1 ⟨vs, H1, I1, r1, a, C, ws, ev, hl, T, ea, q⟩ => ?_) he hpl
  subst ev
  cases r1 with
  | @cons _ u0 _ ur ra rw' =>
    obtain rfl : u0 = Value.ref a := ra
    have hlen : ur.length ≤ sizeLine := by
      rw [← Paired.length rw', sizeLine_eq]
      omega
    exact kinit_ok T I1 ea hlen fun s' J => ⟨.non, H1, J, rfl, q⟩
theorem ps_kst (ho : PE X o to) (he : PE X e te) (hs : swapsWith e (some (.Attribute o f p')) pos.line X.env = pure false := by rfl) : PS X (.Assign [.Attribute o f p'] e pos) (tKst X.K f to te) := by
  refine ⟨fun pins s σ H D I h => ?_⟩
  refine plainObj_wpAny_Assign_Attribute (thn (he.run pins s σ H _ I h) fun v s1 ⟨y, H1, I1, r1, q1⟩ => thn (ho.run pins s1 σ H1 _ I1 q1) fun u s2 ⟨x, H2, I2, r2, a, C, ex, T, hno, ea, q⟩ => ?_) hs
  subst ex
  obtain rfl : u = Value.ref a := r2
  exact kst_new T I2 ea hno r1 fun dx s' n ne J => ⟨σ, _, J, q dx n ne⟩
/-- e.f, e an error as a value -/
def tEf (K : PySem.W.Frag) (f : Str) (te : TE) : TE := fun σ H Q => te σ H fun x H1 => ∃ (a C dd : Addr) (fs : List (Str × V)) (v : V), x = .ref a ∧ XfC K C ∧ PySem.W.findIn K (.ref C) f = some none ∧ H1 a = some (exo a C (some dd)) ∧ H1 dd = some (.xd fs) ∧ fs.lookup f = some v ∧ Q v H1
theorem pe_ef {n : Str} (he : PE X e te) (hb : attributeBase e n X.env (eval e X.env) = eval e X.env := by rfl) : PE X (.Attribute e n pos) (tEf X.K n te) := by
  refine ⟨fun pins s σ H Q I h => ?_⟩
  refine attr_of hb (thn (he.run pins s σ H _ I h) fun u s1 hh => ?_)
  obtain ⟨x, H1, I1, rx, a, C, dd, fs, v, ex, T, hno, ea, ed, l, q⟩ := hh
  subst ex
  obtain rfl : u = Value.ref a := rx
  obtain ⟨t1, ho⟩ := exo_at I1.hok ea
  have hx : ObjOk X.prog X.w H1 s1.heap dd (.xd fs) := I1.hok dd _ ed
  obtain ⟨mA, hns, hr⟩ := hx
  obtain ⟨od, hod, hl⟩ := lookIn_ns hns
  obtain ⟨u, hu, ru⟩ := RelO.some_of (v := v) (o := mA n) (by rw [← l]; exact hr n)
  have J : PySem.W.InstAt s1.heap a { cls := .ref C, dict := some dd, data := .fields #[.ref t1, .none, .none, .none, .bool false, .none] } C (some od) := ⟨ho, rfl, rfl, hod⟩
  exact HandSPX.exc_get I1.kIn J T.ga T.gg T.exC (PySem.W.findObj_own T.hdC hno rfl (by rw [hl, hu])) (handed_of ru) ⟨v, H1, I1.tok _, ru, q⟩
/-- an error as a value stands at a -/
def ErrAt (H : Hp) (a C : Addr) : Prop := H a = some (exo a C none) ∨ ∃ dd fs, H a = some (exo a C (some dd)) ∧ H dd = some (.xd fs)
/-- isinstance(e, c), e an error as a value -/
def rIsV (K : PySem.W.Frag) : List V → Hp → VK → Prop := fun xs H Q => ∃ (a C : Addr) (c : V) (u : Value) (b : Bool), xs = [.ref a, c] ∧ ExcC K C ∧ ErrAt H a C ∧ ClsV c u ∧ PySem.W.kitOne K (.ref C) u = some b ∧ Q (.bl b) H
theorem kit_v {pins : List (Addr × Obj)} {σ : L2.St} {H : Hp} {s : Shared} {a C : Addr} (E : ExcC X.K C) (I : Inv X pins σ H s) (h : ErrAt H a C) : ∃ P : Heap → Prop, PySem.W.KitX X.K (.ref a) (.ref C) P ∧ P s.heap := by
  obtain ⟨cd, hc, _⟩ := PySem.W.any_some E.hd
  rcases h with ea | ⟨dd, fs, ea, ed⟩
  · obtain ⟨t1, ho⟩ := exo_at I.hok ea
    have J : PySem.W.InstAt s.heap a { cls := .ref C, dict := none, data := .fields #[.ref t1, .none, .none, .none, .bool false, .none] } C none := ⟨ho, rfl, rfl, trivial⟩
    exact ⟨_, PySem.W.kitx_exc (by rw [hc]; rfl) E.hg E.hk E.hs E.ha E.hn E.ht E.hm, J⟩
  · obtain ⟨t1, ho⟩ := exo_at I.hok ea
    have hx : ObjOk X.prog X.w H s.heap dd (.xd fs) := I.hok dd _ ed
    obtain ⟨mA, hns, hr⟩ := hx
    obtain ⟨od, hod, hl⟩ := lookIn_ns hns
    have J : PySem.W.InstAt s.heap a { cls := .ref C, dict := some dd, data := .fields #[.ref t1, .none, .none, .none, .bool false, .none] } C (some od) := ⟨ho, rfl, rfl, hod⟩
    exact ⟨_, PySem.W.kitx_exc (by rw [hc]; rfl) E.hg E.hk E.hs E.ha E.hn E.ht E.hm, J⟩
theorem call_isV : CallR X (.builtin "isinstance") (rIsV X.K) := by
  intro pins s σ H xs us Q I r h
  obtain ⟨a, C, c, u, b, rfl, E, hd, k, e, q⟩ := h
  obtain ⟨u1, u2, rfl, r1, r2⟩ := vals2 r
  have e2 := k.eq r2
  subst e2
  obtain rfl : u1 = Value.ref a := r1
  obtain ⟨P, Z, p⟩ := kit_v E I hd
  exact PySem.W.kia_one Z I.kIn p e (fun z => nomatch z) fun tk => ⟨.bl b, H, I.tok tk, rfl, q⟩
end
end Mi
set_option Elab.async false
set_option linter.all false
set_option maxRecDepth 100000
set_option maxHeartbeats 4000000
/-! Mi20: errors as values over plain data. -/
namespace Mi
open PySem PySem.Spec L2
open PyProof.Rows hiding St
/-- an error without a field -/
def spInit0 (K : PySem.W.Frag) (C : Addr) : Sp := fun vs H Q _ => ∃ a : Addr, vs = [.ref a] ∧ H a = some (exo a C none) ∧ Q .non H
theorem spInit0_len {K : PySem.W.Frag} {C : Addr} (vs : List V) (H : Hp) (Q : VK) (E : XK) (h : spInit0 K C vs H Q E) : vs.length = [("self" : Str)].length := by
  obtain ⟨a, rfl, _⟩ := h
  rfl
/-- an error class of the law that is called: its field is f -/
structure ErrV (P : Program) (w : World) (K : PySem.W.Frag) (mg : Str → Option Value) (base : Heap) (x f : Str) (C : Addr) : Prop where
  g : mg x = some (.ref C)
  n : PySem.W.nsIn K PySem.mainGlobals x = some (some (.ref C))
  T : EmC K C
  i : ∃ (fI : Addr) (fd : FuncData), PySem.W.findIn K (.ref C) "__init__" = some (some (.ref fI)) ∧ PySem.W.typeIn K (.ref fI) = some (.type "function") ∧ FnOk P w K mg base CX0 1 fI fd [("self" : Str), f] (spInit K C f) ∧
    (∀ (s : Shared) (a v : Value), BindsTo s fd ⟨[a, v], []⟩ ([("self" : Str), f].zip [a, v])) ∧ ∀ (s : Shared) (a v : Value), BindsTo s fd ⟨[a], [(f, v)]⟩ ([("self" : Str), f].zip [a, v])
structure ErrV0 (P : Program) (w : World) (K : PySem.W.Frag) (mg : Str → Option Value) (base : Heap) (x : Str) (C : Addr) : Prop where
  g : mg x = some (.ref C)
  n : PySem.W.nsIn K PySem.mainGlobals x = some (some (.ref C))
  T : EmC K C
  i : ∃ (fI : Addr) (fd : FuncData), PySem.W.findIn K (.ref C) "__init__" = some (some (.ref fI)) ∧ PySem.W.typeIn K (.ref fI) = some (.type "function") ∧ FnOk P w K mg base CX0 1 fI fd [("self" : Str)] (spInit0 K C) ∧
    ∀ (s : Shared) (a : Value), BindsTo s fd ⟨[a], []⟩ ([("self" : Str)].zip [a])
def errF (x f : Str) : D → Store → Option (D × Store) := fun d st => alloc (.err x [(f, d)]) st
def errF0 (x : Str) : List D → Store → Option (D × Store) := fun _ st => alloc (.err x []) st
section
variable {X : Cx} {pins : List (Addr × Obj)} {σ : L2.St} {H : Hp} {s : Shared} {x f : Str} {C : Addr} {v : V} {u : Value} {Q : VK}
theorem err_heap {H : Hp} {a d : Addr} {o o' u z : HO} (ne : d ≠ a) : upd (upd (upd (upd H a o) d u) a o') d z = upd (upd H d z) a o' := by
  funext b
  by_cases hd : b = d
  · subst hd
    rw [upd_same, upd_ne ne, upd_same]
  · rw [upd_ne hd]
    by_cases ha : b = a
    · rw [ha, upd_same, upd_same]
    · rw [upd_ne ha, upd_ne hd, upd_ne ha, upd_ne ha, upd_ne hd]
/-- the call, whatever way its argument came -/
theorem run_errV {us : List Value} {kw : List (Str × Value)} (hE : ErrV X.prog X.w X.K X.mg X.base x f C) (hr : Room 2 X.A) (I : Inv X pins σ H s) (r : RelV v u) (hw : (us = [u] ∧ kw = []) ∨ (us = [] ∧ kw = [(f, u)]))
    (h : ∀ a dx, H a = none → H dx = none → dx ≠ a → Q (.ref a) (upd (upd H dx (.xd [(f, v)])) a (exo a C (some dx)))) : wpAny (model X.prog X.w) X.A (call (.ref C) us kw) (EP X pins σ Q) X.xe s := by
  obtain ⟨fI, fd, iC, tI, F1, b1, b2⟩ := hE.i
  have hus : us.length ≤ sizeLine := by
    rw [sizeLine_eq]
    rcases hw with ⟨rfl, _⟩ | ⟨rfl, _⟩
    · show 1 ≤ _; decide
    · show 0 ≤ _; decide
  have hb : ∀ (s : Shared) (a : Addr), BindsTo s fd ⟨.ref a :: us, kw⟩ ([("self" : Str), f].zip (.ref a :: [u])) := fun s a => by
    rcases hw with ⟨rfl, rfl⟩ | ⟨rfl, rfl⟩
    · exact b1 s _ _
    · exact b2 s _ _
  refine thn (run_err (Q := fun y H2 => ∃ a dx, y = .ref a ∧ H a = none ∧ H dx = none ∧ dx ≠ a ∧ H2 = upd (upd (upd H a (exo a C none)) dx (exd dx [(f, v)])) a (exo a C (some dx))) hE.T iC tI F1 hr pass0 I hus (.cons r .nil) hb fun a na => ⟨a, v, rfl, upd_same, fun dx ndx ne => ⟨rfl, a, dx, rfl, na, ?_, ne, rfl⟩⟩) fun u2 s2 ⟨y, H2, I2, r2, a, dx, ey, na, nd, ne, eH⟩ => ?_
  · rw [upd_ne ne] at ndx; exact ndx
  · subst ey eH
    refine ⟨.ref a, _, Inv.shut (d := dx) (fs := [(f, v)]) I2 (by rw [upd_ne ne, upd_same]), r2, ?_⟩
    rw [err_heap ne]
    exact h a dx na nd ne
end
section
variable {cm : Str → Option Value} {W : WX} {X : Cx} {x f : Str} {C : Addr} {e : Expr} {fe : EF} {p pos : Pos}
/-- what a made error leaves -/
theorem made_ok {m m1 : List Addr} {H H1 : Hp} {st1 : Store} {d : D} {v : V} {Q : VK} (hn : PySem.W.nsIn X.K PySem.mainGlobals x = some (some (.ref C))) (rs1 : RSt X.K m1 H1 st1) (r1 : RV X.K m1 H1 d v) (h1 : PostO X.K (RV X.K) m1 H1 (errF x f d st1) Q) {a dx : Addr} (na : H1 a = none) (nd : H1 dx = none) (ne : dx ≠ a) :
    Q (.ref a) (upd (upd H1 dx (.xd [(f, v)])) a (exo a C (some dx))) := by
  have e2 : Ext m1 H1 m1 (upd H1 dx (.xd [(f, v)])) := Ext.refl.touch nd
  have rs2 : RSt X.K m1 (upd H1 dx (.xd [(f, v)])) st1 := rs1.beside nd
  have na2 : upd H1 dx (.xd [(f, v)]) a = none := by rw [upd_ne (Ne.symm ne)]; exact na
  have x3 := ext_push (m := m1) (o := exo a C (some dx)) na2
  have rv : RV X.K (m1 ++ [a]) (upd (upd H1 dx (.xd [(f, v)])) a (exo a C (some dx))) d v := RV.ext rs2 x3 d (RV.ext rs1 e2 d r1)
  refine h1 _ _ _ (e2.trans rs2 x3) (rs2.push na2 ⟨C, hn, .inr ⟨dx, [v], upd_same, by rw [upd_ne ne, upd_same]; rfl, rfl, RVs.one rv⟩⟩) ?_
  simp only [RV]
  exact ⟨a, rfl, by rw [← rs1.len, List.getElem?_concat_length]⟩
/-- C(e) -/
theorem de_err {args : List Expr} (hE : ErrV X.prog X.w X.K X.mg X.base x f C) (hr : Room 2 X.A) (he : DE cm W X e fe) (hg : Gl X x := by rfl)
    (hdb : (x == ("__debug__" : Str)) = false := by decide) (hs : starEach [e] X.env = (false, eval e X.env) :: starEach [] X.env := by rfl) (hpl : (backTo pos (starEach [] X.env)).any (·.1) = false := by rfl) :
    DE cm W X (.Call (.Name x p) [e] [] pos) (eUn (errF x f) fe) := by
  have ha : PA X [e] (tCons (LiftE cm X.K W fe) tNil) := pa_cons he pa_nil hs
  refine ⟨fun pins s σ H Q I h => ?_⟩
  obtain ⟨m, q, st, re, rs, h⟩ := h
  refine wpAny_Call_Name_kw (ld_glob I hg hE.g ?_ hdb)
  refine PySem.W.callWith_K (h₀ := X.base) I.ok.mod.kin hE.T.kC (thn (ha.run pos pins s σ H (fun vs H1 => ∃ v, vs = [v] ∧ ∀ a dx, H1 a = none → H1 dx = none → dx ≠ a → Q (.ref a) (upd (upd H1 dx (.xd [(f, v)])) a (exo a C (some dx)))) I ⟨m, q, st, re, rs, Post.split h fun d st1 m1 H1 v e1 x1 rs1 r1 h1 => ?_⟩) fun us s1 ⟨vs, H1, I1, r1, v, ev, k⟩ => ⟨I1.kIn, ?_⟩) hs hpl
  · exact ⟨v, rfl, fun a dx na nd ne => made_ok (m := m) (H := H) hE.n rs1 r1 (PostO.of h1) na nd ne⟩
  · subst ev
    obtain ⟨u, rfl, ru⟩ := vals1 r1
    exact run_errV hE hr I1 ru (.inl ⟨rfl, rfl⟩) k
/-- C(f = e) -/
theorem de_errK {kp : Pos} (hE : ErrV X.prog X.w X.K X.mg X.base x f C) (hr : Room 2 X.A) (he : DE cm W X e fe) (hg : Gl X x := by rfl) (hdb : (x == ("__debug__" : Str)) = false := by decide)
    (hall : (backToKw pos (keywordEach [⟨some f, e, kp⟩] X.env)).all (·.1.isSome) = true := by rfl) (hks : (backToKw pos (keywordEach [⟨some f, e, kp⟩] X.env)).filterMap (·.1) = [f] := by rfl)
    (hplain : ((backTo pos (starEach [] X.env)).any (·.1) || (backToKw pos (keywordEach [⟨some f, e, kp⟩] X.env)).any (·.1.isNone)) = false := by rfl) :
    DE cm W X (.Call (.Name x p) [] [⟨some f, e, kp⟩] pos) (eUn (errF x f) fe) := by
  have ha : PK X [⟨some f, e, kp⟩] (tCons (LiftE cm X.K W fe) tNil) := pk_cons he pk_nil
  refine ⟨fun pins s σ H Q I h => ?_⟩
  obtain ⟨m, q, st, re, rs, h⟩ := h
  refine wpAny_Call_Name_kw (ld_glob I hg hE.g ?_ hdb)
  refine PySem.W.callWith_KW0 (h₀ := X.base) I.ok.mod.kin hE.T.kC hall ?_ hplain
  refine thn (ha.run pos pins s σ H (fun vs H1 => ∃ v, vs = [v] ∧ ∀ a dx, H1 a = none → H1 dx = none → dx ≠ a → Q (.ref a) (upd (upd H1 dx (.xd [(f, v)])) a (exo a C (some dx)))) I ⟨m, q, st, re, rs, Post.split h fun d st1 m1 H1 v e1 x1 rs1 r1 h1 => ?_⟩) fun ws s1 ⟨vs, H1, I1, r1, v, ev, k⟩ => ⟨I1.kIn, ?_⟩
  · exact ⟨v, rfl, fun a dx na nd ne => made_ok (m := m) (H := H) hE.n rs1 r1 (PostO.of h1) na nd ne⟩
  · subst ev
    obtain ⟨u, rfl, ru⟩ := vals1 r1
    rw [hks]
    exact run_errV hE hr I1 ru (.inr ⟨rfl, rfl⟩) k
/-- C() -/
theorem de_err0 (hE : ErrV0 X.prog X.w X.K X.mg X.base x C) (hr : Room 2 X.A) (hg : Gl X x := by rfl) (hdb : (x == ("__debug__" : Str)) = false := by decide) : DE cm W X (.Call (.Name x p) [] [] pos) (eB (errF0 x) aNil) := by
  refine ⟨fun pins s σ H Q I h => ?_⟩
  obtain ⟨m, q, st, re, rs, h⟩ := h
  obtain ⟨fI, fd, iC, tI, F1, b1⟩ := hE.i
  refine wpAny_Call_Name_kw (ld_glob I hg hE.g ?_ hdb)
  refine PySem.W.callWith_K0 I.kIn hE.T.kC ?_
  refine run_err (us := []) (ys := []) (zs := []) hE.T iC tI F1 hr pass0 I (Nat.zero_le _) .nil (fun s a => b1 s _) fun a na => ⟨a, rfl, upd_same, rfl, ?_⟩
  have h0 : PostO X.K (RV X.K) m H (alloc (.err x []) st) Q := PostO.of h
  refine h0 _ _ _ (ext_push na) (rs.push na ⟨C, hE.n, .inl ⟨rfl, upd_same⟩⟩) ?_
  simp only [RV]
  exact ⟨a, rfl, by rw [← rs.len, List.getElem?_concat_length]⟩
end
/-! ### what is asked of it -/
/-- a table of answers, by the name of the class -/
def TabN (K : PySem.W.Frag) (q : Value → Bool → Prop) (l : List (Str × Bool)) : Prop := ∀ p ∈ l, ∃ C, PySem.W.nsIn K PySem.mainGlobals p.1 = some (some (.ref C)) ∧ ExcC K C ∧ q (.ref C) p.2
theorem tabn_nil {K : PySem.W.Frag} {q : Value → Bool → Prop} : TabN K q [] := fun _ h => by cases h
theorem tabn_cons {K : PySem.W.Frag} {q : Value → Bool → Prop} {x : Str} {b : Bool} {C : Addr} {l : List (Str × Bool)} (n : PySem.W.nsIn K PySem.mainGlobals x = some (some (.ref C))) (E : ExcC K C) (hq : q (.ref C) b) (t : TabN K q l) : TabN K q ((x, b) :: l) := fun p hp => by
  rcases List.mem_cons.mp hp with rfl | hp
  · exact ⟨C, n, E, hq⟩
  · exact t p hp
theorem TabN.at {K : PySem.W.Frag} {q : Value → Bool → Prop} {l : List (Str × Bool)} (t : TabN K q l) {cn : Str} {C : Addr} {b : Bool} (e : l.lookup cn = some b) (hc : PySem.W.nsIn K PySem.mainGlobals cn = some (some (.ref C))) : ExcC K C ∧ q (.ref C) b := by
  obtain ⟨D, h1, h2, h3⟩ := t _ (mem_lookup e)
  rw [hc] at h1
  cases h1
  exact ⟨h2, h3⟩
/-- isinstance(e, y): the table says it -/
def eisF (tab : List (Str × Bool)) : D → Store → Option (D × Store) := fun d st => match d with
  | .ref l => match st[l]? with
    | some (.err cls _) => (tab.lookup cls).map fun b => (.bl b, st)
    | _ => none
  | _ => none
/-- e.n -/
def eflF (tab : List (Str × Bool)) (n : Str) : D → Store → Option (D × Store) := fun d st => match d with
  | .ref l => match st[l]? with
    | some (.err cls fs) => if tab.lookup cls = some true then (fs.lookup n).map fun v => (v, st) else none
    | _ => none
  | _ => none
theorem RSt.err {K : PySem.W.Frag} {m : List Addr} {H : Hp} {st : Store} {l : Nat} {a : Addr} {cls : Str} {fs : List (Str × D)} (rs : RSt K m H st) (hl : m[l]? = some a) (h : st[l]? = some (.err cls fs)) : RO K m H a (.err cls fs) := rs.ob l a _ hl h
theorem lk_unzip {n : Str} : ∀ {fs : List (Str × D)} {y : D}, fs.lookup n = some y → ((fs.map (·.1)).zip (fs.map (·.2))).lookup n = some y := fun {fs y} h => by rw [zip_unzip]; exact h
section
variable {cm : Str → Option Value} {W : WX} {X : Cx} {e : Expr} {fe : EF} {pos pf pT : Pos}
theorem de_eis {x : Str} {u : Value} {tab : List (Str × Bool)} (T : TabN X.K (fun c v => PySem.W.kitOne X.K c u = some v) tab) (he : DE cm W X e fe) (hm : X.mg "isinstance" = none) (hu : ClN X.mg x u) (hg : Gl X "isinstance" := by rfl) (hgT : Gl X x := by rfl) (hdb : (x == ("__debug__" : Str)) = false := by decide)
    (he1 : starEach [e, .Name x pT] X.env = (false, eval e X.env) :: starEach [.Name x pT] X.env := by rfl) (he2 : starEach [.Name x pT] X.env = (false, eval (.Name x pT) X.env) :: starEach [] X.env := by rfl) (hpl : (backTo pos (starEach [.Name x pT] X.env)).any (·.1) = false := by rfl) :
    DE cm W X (.Call (.Name "isinstance" pf) [e, .Name x pT] [] pos) (eUn (eisF tab) fe) := by
  obtain ⟨c, k, pc⟩ := pe_cln (X := X) (pos := pT) hu hgT hdb
  refine peI (pe_callB (call_isV (X := X)) hg hm (by decide +kernel) (pa_cons he (pa_cons pc pa_nil he2) he1) (by decide) (by decide) he1 hpl) fun s H Q h => ?_
  obtain ⟨m, p, st, re, rs, h⟩ := h
  refine ⟨m, p, st, re, rs, Post.split h fun d st1 m1 H1 v1 e1 x1 rs1 r1 h1 => ?_⟩
  have g1 := PostO.of h1
  clear h1
  cases d with
  | ref l =>
    simp only [RV] at r1
    obtain ⟨a, rfl, hl⟩ := r1
    simp only [eisF] at g1
    split at g1
    · rename_i cls fs hs
      obtain ⟨C, hn, ro⟩ := rs1.err hl hs
      cases hb : tab.lookup cls with
      | none => rw [hb] at g1; exact g1.elim
      | some b =>
        rw [hb] at g1
        obtain ⟨E, hk⟩ := T.at hb hn
        refine ⟨a, C, c, u, b, rfl, E, ?_, k, hk, g1 m1 H1 _ Ext.refl rs1 (by simp [RV])⟩
        rcases ro with ⟨_, ea⟩ | ⟨dd, zs, ea, ed, _⟩
        · exact .inl ea
        · exact .inr ⟨dd, _, ea, ed⟩
    · exact g1.elim
  | _ => exact g1.elim
theorem de_efl {n : Str} {tab : List (Str × Bool)} (T : TabN X.K (fun c v => v = true → ∃ C, c = .ref C ∧ XfC X.K C ∧ PySem.W.findIn X.K (.ref C) n = some none) tab) (he : DE cm W X e fe) (hb : attributeBase e n X.env (eval e X.env) = eval e X.env := by rfl) :
    DE cm W X (.Attribute e n pos) (eUn (eflF tab n) fe) := by
  refine peI (pe_ef he hb) fun s H Q h => ?_
  obtain ⟨m, p, st, re, rs, h⟩ := h
  refine ⟨m, p, st, re, rs, Post.split h fun d st1 m1 H1 v1 e1 x1 rs1 r1 h1 => ?_⟩
  have g1 := PostO.of h1
  clear h1
  cases d with
  | ref l =>
    simp only [RV] at r1
    obtain ⟨a, rfl, hl⟩ := r1
    simp only [eflF] at g1
    split at g1
    · rename_i cls fs hs
      obtain ⟨C, hn, ro⟩ := rs1.err hl hs
      split at g1
      · rename_i ht
        obtain ⟨E, hk⟩ := T.at ht hn
        obtain ⟨C', eC, xf, hno⟩ := hk rfl
        cases eC
        cases hl2 : fs.lookup n with
        | none => rw [hl2] at g1; exact g1.elim
        | some y =>
          rw [hl2] at g1
          rcases ro with ⟨e0, _⟩ | ⟨dd, zs, ea, ed, _, hz⟩
          · rw [e0] at hl2; cases hl2
          · obtain ⟨v, h4, h5⟩ := RVs.lookup hz (lk_unzip hl2)
            exact ⟨a, C, dd, _, v, rfl, xf, hno, ea, ed, h4, g1 m1 H1 _ Ext.refl rs1 h5⟩
      · exact g1.elim
    · exact g1.elim
  | _ => exact g1.elim
end
/-! ### what the top has written of them -/
/-- arguments, bound as they are written -/
theorem bt_of {K : PySem.W.Frag} {x qual : Str} {st : Stmt} {f : Addr} {fd : FuncData} {args : Args} {l : List (Str × Value)} (F : Fun K x qual st f fd) (h : ∀ (kV doc pm : Value) (an : Option Addr) (cdv ct : Value), bindArgs (PySem.W.fnOf x qual (defArgs st) (defBody st) (defScope st) .none kV doc pm an cdv ct) args = pure l) (s : Shared) : BindsTo s fd args l := by
  obtain ⟨oc, od, kV, doc, pm, an, cdv, ct, osl, rfl, lk, hcd⟩ := F.ex
  exact .of_eq (h kV doc pm an cdv ct)
/-- an error class straight over KeyError, whose __init__ is st -/
structure XK (K : PySem.W.Frag) (mg : Str → Option Value) (x : Str) (st : Stmt) (C fI : Addr) (fd : FuncData) : Prop where
  m : mg x = some (.ref C)
  O : KexC K C
  X : ExcC K C
  iC : PySem.W.findIn K (.ref C) "__init__" = some (some (.ref fI))
  iT : PySem.W.typeIn K (.ref fI) = some (.type "function")
  F : Fun K "__init__" (x ++ ".__init__") st fI fd
  n : PySem.W.nsIn K PySem.mainGlobals x = some (some (.ref C))
theorem XK.xf {K : PySem.W.Frag} {mg : Str → Option Value} {x : Str} {st : Stmt} {C fI : Addr} {fd : FuncData} (E : XK K mg x st C fI fd) : XfC K C := ⟨E.X.hg, E.X.hk, E.X.hs, E.X.hd⟩
theorem xk_mk {K : PySem.W.Frag} {mg : Str → Option Value} {h : Heap} {x q : Str} {st : Stmt} {C f : Addr} {od an : Option Addr} {sl : Array (Option Value)} {oc kV dc pm cd ct : Value} {nm N bs sn sub ab col dd k0 k1 k2 k3 k5} (X : K.In h) (G : h.Ns mainGlobals mg)
    (a : PySem.W.nsIn K mainGlobals x = some (some (.ref C))) (lC : K.lookup C = some (excClassObj nm q C N bs keTail true sn sub ab col dd k0 k1 k2 k3 k5 "LookupError.__new__"))
    (sa : PySem.W.findIn K (.ref C) "__setattr__" = some (some (.builtin "object.__setattr__"))) (exC : PySem.W.subIn K (.ref C) (.type "BaseException") = some true) (kC : PySem.W.keepIn K (.ref C) = true)
    (hg : PySem.W.findIn K (.ref C) "__getattribute__" = some (some (.builtin "BaseException.__getattribute__"))) (hk : PySem.W.findIn K (.ref C) "__getattr__" = some none) (hd : PySem.W.hasDictIn K C = true) (ha : PySem.W.findIn K (.ref C) "__class__" = some (some (.builtin "object.__class__")))
    (hn : PySem.W.specialIn K (.builtin "object.__class__") "__get__" = some (some (.builtin "getset_descriptor.__get__"))) (ht : PySem.W.takesIn K (.builtin "object.__class__") = some true) (hm : PySem.W.mroIn K C (.type "object") = some true)
    (iC : PySem.W.findIn K (.ref C) "__init__" = some (some (.ref f))) (iF : PySem.W.isFn K (.ref f) = true) (l : K.lookup f = some ⟨oc, od, .func (PySem.W.fnOf "__init__" (x ++ ".__init__") (defArgs st) (defBody st) (defScope st) .none kV dc pm an cd ct), sl⟩)
    (c : PySem.W.codeIn K cd (x ++ ".__init__") = true) (k : PySem.W.keepIn K (.ref f) = true) : XK K mg x st C f (PySem.W.fnOf "__init__" (x ++ ".__init__") (defArgs st) (defBody st) (defScope st) .none kV dc pm an cd ct) :=
  ⟨PySem.W.mg_of X G a, ⟨⟨nm, q, N, bs, sn, sub, ab, col, dd, k0, k1, k2, k3, k5, lC⟩, sa, kC⟩, ⟨hg, hk, exC, hd, ha, hn, ht, hm⟩, iC, beq_iff_eq.mp iF, fun_mk l c k, a⟩
end Mi
set_option Elab.async false
set_option linter.all false
set_option maxRecDepth 100000
set_option maxHeartbeats 4000000
/-! Mp0: what a function over plain data answers. -/
namespace Mi
open PySem
/-- r ends well, and Q holds then; or in an error, and Y holds then -/
def EvX {α : Type} (Y : Exc → Store → Prop) (r : R α) (Q : α → Store → Prop) : Prop := match r with
  | .ok a st => Q a st
  | .exc e st => Y e st
  | .bad => False
/-- r ends well, and Q holds then -/
abbrev Ev {α : Type} (r : R α) (Q : α → Store → Prop) : Prop := EvX (fun _ _ => False) r Q
def EvO {α : Type} (r : Option (α × Store)) (Q : α → Store → Prop) : Prop := match r with
  | some (a, st) => Q a st
  | none => False
/-- where a statement may end -/
structure En where
  nx : Rho → Store → Prop
  rt : D → Store → Prop := fun _ _ => False
  bk : Rho → Store → Prop := fun _ _ => False
  ct : Rho → Store → Prop := fun _ _ => False
  xc : Exc → Rho → Store → Prop := fun _ _ _ => False
def EvS (r : SR) (E : En) : Prop := match r with
  | .nx p st => E.nx p st
  | .rt d st => E.rt d st
  | .bk p st => E.bk p st
  | .ct p st => E.ct p st
  | .xc e p st => E.xc e p st
  | .bad => False
section
variable {α β : Type} {Q Q' : α → Store → Prop} {p : Rho} {st : Store} {E : En} {Y : Exc → Store → Prop}
theorem EvX.mono {r : R α} (h : EvX Y r Q) (k : ∀ a st, Q a st → Q' a st) : EvX Y r Q' := by
  cases r with
  | ok a st => exact k a st h
  | exc _ _ => exact h
  | bad => exact h
theorem EvX.imp {Y' : Exc → Store → Prop} {r : R α} (h : EvX Y r Q) (k : ∀ a st, Q a st → Q' a st) (y : ∀ e st, Y e st → Y' e st) : EvX Y' r Q' := by
  cases r with
  | ok a st => exact k a st h
  | exc e st => exact y e st h
  | bad => exact h
theorem Ev.toX {r : R α} (h : Ev r Q) : EvX Y r Q := EvX.imp h (fun _ _ q => q) fun _ _ z => z.elim
theorem Ev.mono {r : R α} (h : Ev r Q) (k : ∀ a st, Q a st → Q' a st) : Ev r Q' := by
  cases r with
  | ok a st => exact k a st h
  | exc _ _ => exact h
  | bad => exact h
theorem Ev.get {r : R α} (h : Ev r Q) : ∃ a st, r = .ok a st ∧ Q a st := by
  cases r with
  | ok a st => exact ⟨a, st, rfl, h⟩
  | exc _ _ => exact h.elim
  | bad => exact h.elim
theorem EvS.mono {r : SR} {E' : En} (h : EvS r E) (k1 : ∀ p st, E.nx p st → E'.nx p st) (k2 : ∀ d st, E.rt d st → E'.rt d st) (k3 : ∀ p st, E.bk p st → E'.bk p st := by intro _ _ h; exact h) (k4 : ∀ p st, E.ct p st → E'.ct p st := by intro _ _ h; exact h) (k5 : ∀ e p st, E.xc e p st → E'.xc e p st := by intro _ _ _ h; exact h) : EvS r E' := by
  cases r with
  | nx p st => exact k1 p st h
  | rt d st => exact k2 d st h
  | bk p st => exact k3 p st h
  | ct p st => exact k4 p st h
  | xc e p st => exact k5 e p st h
  | bad => exact h
theorem ev_okX (a : α) : EvX Y (.ok a st) Q = Q a st := rfl
/-- for rw, where the goal says Ev -/
theorem ev_ok (a : α) : Ev (.ok a st) Q = Q a st := rfl
theorem ev_bind (r : R α) (f : α → Store → R β) (Q : β → Store → Prop) : EvX Y (bindR r f) Q = EvX Y r fun a st => EvX Y (f a st) Q := by cases r <;> rfl
theorem ev_optR (o : Option (α × Store)) : EvX Y (optR o) Q = EvO o Q := by
  cases o with
  | none => rfl
  | some x => rfl
theorem evo_some (a : α) : EvO (some (a, st)) Q = Q a st := rfl
theorem evo_alloc {Q : D → Store → Prop} (o : O) : EvO (alloc o st) Q = Q (.ref st.length) (st ++ [o]) := rfl
/-! expressions -/
theorem ev_c {Q : D → Store → Prop} (d : D) : EvX Y (eC d p st) Q = Q d st := rfl
theorem ev_var {Q : D → Store → Prop} {i : Nat} {d : D} (h : p[i]? = some (some d)) : EvX Y (eVar i p st) Q = Q d st := by unfold eVar; rw [h]; rfl
theorem ev_v {Q : D → Store → Prop} (i : Nat) : EvX Y (eVar i p st) Q = (match p[i]? with | some (some d) => Q d st | _ => False) := by
  unfold eVar
  cases p[i]? with
  | none => rfl
  | some o => cases o <;> rfl
theorem ev_op {Q : D → Store → Prop} (g : D → D → Store → Option (D × Store)) (a b : EF) : EvX Y (eOp g a b p st) Q = EvX Y (a p st) fun x st1 => EvX Y (b p st1) fun y st2 => EvO (g x y st2) Q := by
  simp only [eOp, ev_bind, ev_optR]
theorem ev_un {Q : D → Store → Prop} (g : D → Store → Option (D × Store)) (a : EF) : EvX Y (eUn g a p st) Q = EvX Y (a p st) fun x st1 => EvO (g x st1) Q := by
  simp only [eUn, ev_bind, ev_optR]
theorem ev_bl {Q : Bool → Store → Prop} (b : Bool) : EvX Y (blR (.bl b) st) Q = Q b st := rfl
theorem ev_val {Q : Bool → Store → Prop} (a : EF) : EvX Y (tVal a p st) Q = EvX Y (a p st) fun x st1 => EvX Y (blR x st1) Q := by simp only [tVal, ev_bind]
theorem ev_tnot {Q : Bool → Store → Prop} (a : TF1) : EvX Y (tNotF a p st) Q = EvX Y (a p st) fun b st1 => Q (!b) st1 := by simp only [tNotF, ev_bind, ev_okX]
theorem ev_tand {Q : Bool → Store → Prop} (a b : TF1) : EvX Y (tAndF a b p st) Q = EvX Y (a p st) fun x st1 => if x = true then EvX Y (b p st1) Q else Q false st1 := by
  simp only [tAndF, ev_bind]; congr; funext x st1; cases x <;> rfl
theorem ev_tor {Q : Bool → Store → Prop} (a b : TF1) : EvX Y (tOrF a b p st) Q = EvX Y (a p st) fun x st1 => if x = true then Q true st1 else EvX Y (b p st1) Q := by
  simp only [tOrF, ev_bind]; congr; funext x st1; cases x <;> rfl
theorem ev_not {Q : D → Store → Prop} (a : EF) : EvX Y (eNot a p st) Q = EvX Y (a p st) fun x st1 => EvX Y (blR x st1) fun b st2 => Q (.bl (!b)) st2 := by simp only [eNot, ev_bind, ev_val, ev_okX]
theorem ev_and {Q : D → Store → Prop} (a b : EF) : EvX Y (eAnd a b p st) Q = EvX Y (a p st) fun x st1 => EvX Y (blR x st1) fun k st2 => if k = true then EvX Y (b p st2) Q else Q (.bl false) st2 := by
  simp only [eAnd, ev_bind, ev_val]; congr; funext x st1; congr; funext k st2; cases k <;> rfl
theorem ev_or {Q : D → Store → Prop} (a b : EF) : EvX Y (eOr a b p st) Q = EvX Y (a p st) fun x st1 => EvX Y (blR x st1) fun k st2 => if k = true then Q (.bl true) st2 else EvX Y (b p st2) Q := by
  simp only [eOr, ev_bind, ev_val]; congr; funext x st1; congr; funext k st2; cases k <;> rfl
theorem ev_if {Q : D → Store → Prop} (t : TF1) (a b : EF) : EvX Y (eIf t a b p st) Q = EvX Y (t p st) fun x st1 => if x = true then EvX Y (a p st1) Q else EvX Y (b p st1) Q := by
  simp only [eIf, ev_bind]; congr; funext x st1; cases x <;> rfl
theorem ev_chain {Q : D → Store → Prop} (g g' : D → D → Store → Option (D × Store)) (a b c : EF) : EvX Y (eChain g g' a b c p st) Q = EvX Y (a p st) fun x st1 => EvX Y (b p st1) fun y st2 => EvO (g x y st2) fun z st3 => EvX Y (blR z st3) fun k st4 =>
    if k = true then EvX Y (c p st4) fun w st5 => EvO (g' y w st5) Q else Q (.bl false) st4 := by
  simp only [eChain, ev_bind, ev_optR]; congr; funext x st1; congr; funext y st2; congr; funext z st3; congr; funext k st4; cases k <;> simp [ev_bind, ev_optR, ev_okX]
theorem ev_nil {Q : List D → Store → Prop} : EvX Y (aNil p st) Q = Q [] st := rfl
theorem ev_cons {Q : List D → Store → Prop} (a : EF) (r : AF) : EvX Y (aCons a r p st) Q = EvX Y (a p st) fun x st1 => EvX Y (r p st1) fun xs st2 => Q (x :: xs) st2 := by simp only [aCons, ev_bind, ev_okX]
theorem ev_b {Q : D → Store → Prop} (g : List D → Store → Option (D × Store)) (a : AF) : EvX Y (eB g a p st) Q = EvX Y (a p st) fun xs st1 => EvO (g xs st1) Q := by simp only [eB, ev_bind, ev_optR]
theorem ev_call {Q : D → Store → Prop} (F : FnF) (a : AF) : EvX Y (eCall F a p st) Q = EvX Y (a p st) fun xs st1 => EvX Y (F xs st1) Q := by simp only [eCall, ev_bind]
theorem ev_callK {Q : D → Store → Prop} (F : FnF) (g : {α : Type} → List α → List α) (a : AF) : EvX Y (eCallK F g a p st) Q = EvX Y (a p st) fun xs st1 => EvX Y (F (g xs) st1) Q := by simp only [eCallK, ev_bind]
theorem ev_none {Q : Option Int → Store → Prop} : EvX Y (oNone p st) Q = Q none st := rfl
theorem ev_some {Q : Option Int → Store → Prop} (a : EF) : EvX Y (oSome a p st) Q = EvX Y (a p st) fun d st1 => (match d with | .int i => Q (some i) st1 | _ => False) := by
  simp only [oSome, ev_bind]; congr; funext d st1; cases d <;> rfl
theorem ev_sl {Q : D → Store → Prop} (g : D → Option Int → Option Int → Store → Option (D × Store)) (a : EF) (lo hi : OF) : EvX Y (eSl g a lo hi p st) Q = EvX Y (a p st) fun x st1 => EvX Y (lo p st1) fun l st2 => EvX Y (hi p st2) fun h st3 => EvO (g x l h st3) Q := by
  simp only [eSl, ev_bind, ev_optR]
theorem ev_mt {Q : D → Store → Prop} (T : String) (g : D → List D → Store → Option (D × Store)) (o : EF) (a : AF) : EvX Y (eMt T g o a p st) Q = EvX Y (o p st) fun x st1 => tyD T x st1 ∧ EvX Y (a p st1) fun xs st2 => EvO (g x xs st2) Q := by
  simp only [eMt, ev_bind]; congr; funext x st1
  split
  · rename_i h; simp [h, ev_bind, ev_optR]
  · rename_i h; simp only [h, false_and]; rfl
theorem ev_knil {Q : List (L2.Key × D) → Store → Prop} : EvX Y (kNil p st) Q = Q [] st := rfl
theorem ev_kcons {Q : List (L2.Key × D) → Store → Prop} (k : L2.Key) (a : EF) (r : KF) : EvX Y (kCons k a r p st) Q = EvX Y (a p st) fun d st1 => EvX Y (r p st1) fun kvs st2 => Q ((k, d) :: kvs) st2 := by simp only [kCons, ev_bind, ev_okX]
theorem ev_dic {Q : D → Store → Prop} (f : KF) : EvX Y (eDic f p st) Q = EvX Y (f p st) fun kvs st1 => EvO (mkDic kvs st1) Q := by simp only [eDic, ev_bind, ev_optR]
/-! statements -/
theorem evs_bind (r : R α) (f : α → Store → SR) : EvS (bindS p r f) E = EvX (fun e st => E.xc e p st) r fun a st => EvS (f a st) E := by cases r <;> rfl
theorem evs_nil : EvS (sNil p st) E = E.nx p st := rfl
theorem evs_seq (a b : SF) : EvS (sSeq a b p st) E = EvS (a p st) { E with nx := fun p1 st1 => EvS (b p1 st1) E } := by unfold sSeq; cases a p st <;> rfl
theorem evs_ret (a : EF) : EvS (sRet a p st) E = EvX (fun e st => E.xc e p st) (a p st) E.rt := by simp only [sRet, evs_bind]; rfl
theorem evs_retN : EvS (sRetN p st) E = E.rt .non st := rfl
theorem evs_expr (a : EF) : EvS (sExpr a p st) E = EvX (fun e st => E.xc e p st) (a p st) fun _ st1 => E.nx p st1 := by simp only [sExpr, evs_bind]; rfl
theorem evs_if (t : TF1) (a b : SF) : EvS (sIf t a b p st) E = EvX (fun e st => E.xc e p st) (t p st) fun x st1 => if x = true then EvS (a p st1) E else EvS (b p st1) E := by
  simp only [sIf, evs_bind]; congr; funext x st1; cases x <;> rfl
theorem evs_asg (a : EF) (g : TgF) : EvS (sAsg a g p st) E = EvX (fun e st => E.xc e p st) (a p st) fun d st1 => (match g d p st1 with | some p1 => E.nx p1 st1 | none => False) := by
  simp only [sAsg, evs_bind]; congr; funext d st1; cases g d p st1 <;> rfl
theorem evs_set (a : EF) (i : Nat) : EvS (sAsg a (gNameF i) p st) E = EvX (fun e st => E.xc e p st) (a p st) fun d st1 => E.nx (p.set i (some d)) st1 := by rw [evs_asg]; rfl
theorem evs_par2 (i j : Nat) (a : AF) : EvS (sPar2 i j a p st) E = EvX (fun e st => E.xc e p st) (a p st) fun ds st1 => (match ds with | [d, e] => E.nx ((p.set i (some d)).set j (some e)) st1 | _ => False) := by
  simp only [sPar2, evs_bind]; congr; funext ds st1; rcases ds with _ | ⟨d, _ | ⟨e, _ | ⟨f, r⟩⟩⟩ <;> rfl
theorem evs_par3 (i j k : Nat) (a : AF) : EvS (sPar3 i j k a p st) E = EvX (fun e st => E.xc e p st) (a p st) fun ds st1 => (match ds with | [d, e, f] => E.nx (((p.set i (some d)).set j (some e)).set k (some f)) st1 | _ => False) := by
  simp only [sPar3, evs_bind]; congr; funext ds st1; rcases ds with _ | ⟨d, _ | ⟨e, _ | ⟨f, _ | ⟨g, r⟩⟩⟩⟩ <;> rfl
theorem evs_sub (o i a : EF) : EvS (sSub o i a p st) E = EvX (fun e st => E.xc e p st) (a p st) fun d st1 => EvX (fun e st => E.xc e p st) (o p st1) fun od st2 => EvX (fun e st => E.xc e p st) (i p st2) fun id st3 => (match setItemF od id d st3 with | some st4 => E.nx p st4 | none => False) := by
  simp only [sSub, evs_bind]; congr; funext d st1; congr; funext od st2; congr; funext id st3; cases setItemF od id d st3 <;> rfl
theorem evs_match (a : EF) (c : D → SF) : EvS (sMatch a c p st) E = EvX (fun e st => E.xc e p st) (a p st) fun d st1 => EvS (c d p st1) E := by simp only [sMatch, evs_bind]
theorem evs_mnil (d : D) : EvS (mcNil d p st) E = E.nx p st := rfl
theorem evs_mcons (f : PtF) (ix : List Nat) (b : SF) (r : D → SF) (d : D) : EvS (mcCons f ix b r d p st) E = (match f d st with | none => False | some none => EvS (r d p st) E | some (some ds) => EvS (b (setAll p ix ds) st) E) := by
  unfold mcCons
  cases f d st with
  | none => rfl
  | some o => cases o <;> rfl
theorem evs_for (fi : IF) (tg : TgF) (body : SF) : EvS (sFor fi tg body p st) E = EvX (fun e st => E.xc e p st) (fi p st) fun it st1 => EvS (forGo it.still tg body it.items p st1) E := by simp only [sFor, evs_bind]
theorem ev_run {Q : D → Store → Prop} (n : Nat) (body : SF) (ds : List D) : EvX Y (runD n body ds st) Q = EvS (body (ds.map some ++ List.replicate (n - ds.length) none) st) { nx := fun _ st' => Q .non st', rt := Q, xc := fun e _ st' => Y e st' } := by
  unfold runD
  cases body (ds.map some ++ List.replicate (n - ds.length) none) st <;> rfl
theorem ev_iseq {Q : IT → Store → Prop} (a : EF) : EvX Y (iSeq a p st) Q = EvX Y (a p st) fun d st1 => EvX Y (itOf d st1) Q := by simp only [iSeq, ev_bind]
theorem ev_lc {Q : D → Store → Prop} (fi : IF) (own : List Nat) (tg : TgF) (tt : TF1) (te : EF) : EvX Y (eLC fi own tg tt te p st) Q = EvX Y (fi p st) fun it st1 => EvX Y (compGo it.still tg tt te (wipeR p own) it.items st1) fun ys st2 => EvO (mkLst ys st2) Q := by
  simp only [eLC, ev_bind, ev_optR]
theorem ev_yes {Q : Bool → Store → Prop} : EvX Y (tYesF p st) Q = Q true st := rfl
theorem ev_range1 {Q : IT → Store → Prop} (a : AF) : EvX Y (iRange1 a p st) Q = EvX Y (a p st) fun xs st1 => (match xs with | [.int n] => (-(2 ^ 62) ≤ n ∧ n < 2 ^ 62) ∧ Q ⟨rgItems 0 n.toNat, fun _ => True⟩ st1 | _ => False) := by
  simp only [iRange1, ev_bind]; congr; funext xs st1
  rcases xs with _ | ⟨d, _ | ⟨e, r⟩⟩
  · rfl
  · cases d with
    | int n =>
      dsimp only
      split
      · rename_i h; simp only [ev_okX, h, and_self, true_and]
      · rename_i h; simp only [h, false_and]; rfl
    | _ => rfl
  · cases d <;> rfl
theorem ev_enum {Q : IT → Store → Prop} (a : AF) : EvX Y (iEnumF a p st) Q = EvX Y (a p st) fun xs st1 => (match xs with | [.ref l] => (match st1[l]? with | some (.lst ds) => Q ⟨enItems ds, fun st' => st'[l]? = some (.lst ds)⟩ st1 | _ => False) | _ => False) := by
  simp only [iEnumF, ev_bind]; congr; funext xs st1
  rcases xs with _ | ⟨d, _ | ⟨e, r⟩⟩
  · rfl
  · cases d with
    | ref l =>
      dsimp only
      cases st1[l]? with
      | none => rfl
      | some o => cases o <;> rfl
    | _ => rfl
  · cases d <;> rfl
/-! loops -/
theorem evs_forGo {still : Store → Prop} {tg : TgF} {body : SF} (I : Nat → Rho → Store → Prop) : ∀ (items : List D) (j : Nat) (p : Rho) (st : Store), I j p st → (∀ i p st, j ≤ i → i ≤ j + items.length → I i p st → still st) →
    (∀ i d p st, j ≤ i → items[i - j]? = some d → I i p st → ∃ p1, tg d p st = some p1 ∧ EvS (body p1 st) { nx := I (i + 1), ct := I (i + 1), bk := E.nx, rt := E.rt, xc := E.xc }) → (∀ p st, I (j + items.length) p st → E.nx p st) → EvS (forGo still tg body items p st) E
  | [], j, p, st, h0, hs, hb, hn => by
    unfold forGo
    rw [if_pos (hs j p st (Nat.le_refl _) (Nat.le_add_right _ _) h0)]
    exact hn p st h0
  | d :: ds, j, p, st, h0, hs, hb, hn => by
    unfold forGo
    rw [if_pos (hs j p st (Nat.le_refl _) (Nat.le_add_right _ _) h0)]
    obtain ⟨p1, e, h1⟩ := hb j d p st (Nat.le_refl _) (by simp) h0
    rw [e]
    dsimp only
    have go : ∀ p st, I (j + 1) p st → EvS (forGo still tg body ds p st) E := fun p st h => evs_forGo I ds (j + 1) p st h (fun i p st a b => hs i p st (by omega) (by simp only [List.length_cons]; omega))
      (fun i d p st a b => hb i d p st (by omega) (by
        have : i - j = (i - (j + 1)) + 1 := by omega
        rw [this, List.getElem?_cons_succ]; exact b)) (fun p st h => hn p st (by
        have : j + (d :: ds).length = j + 1 + ds.length := by rw [List.length_cons]; omega
        rw [this]; exact h))
    cases q : body p1 st with
    | nx p2 st2 => rw [q] at h1; exact go _ _ h1
    | ct p2 st2 => rw [q] at h1; exact go _ _ h1
    | bk p2 st2 => rw [q] at h1; exact h1
    | rt d st2 => rw [q] at h1; exact h1
    | xc e p2 st2 => rw [q] at h1; exact h1
    | bad => rw [q] at h1; exact h1.elim
theorem ev_noX {r : R α} : EvX Y (noX r) Q = Ev r Q := by cases r <;> rfl
/-- a comprehension, by what holds after each turn -/
theorem ev_comp {still : Store → Prop} {tg : TgF} {tt : TF1} {te : EF} {Q : List D → Store → Prop} (I : Nat → List D → Store → Prop) : ∀ (items : List D) (j : Nat) (acc : List D) (st : Store), I j acc st → (∀ i acc st, j ≤ i → i ≤ j + items.length → I i acc st → still st) →
    (∀ i d acc st, j ≤ i → items[i - j]? = some d → I i acc st → ∃ p1, tg d p st = some p1 ∧ Ev (tt p1 st) fun b st1 => if b = true then Ev (te p1 st1) fun y st2 => I (i + 1) (acc ++ [y]) st2 else I (i + 1) acc st1) →
    (∀ ys st, I (j + items.length) (acc ++ ys) st → Q ys st) → Ev (compGo still tg tt te p items st) Q
  | [], j, acc, st, h0, hs, hb, hn => by
    unfold compGo
    rw [if_pos (hs j acc st (Nat.le_refl _) (Nat.le_add_right _ _) h0)]
    exact hn [] st (by simpa using h0)
  | d :: ds, j, acc, st, h0, hs, hb, hn => by
    unfold compGo
    rw [if_pos (hs j acc st (Nat.le_refl _) (Nat.le_add_right _ _) h0)]
    obtain ⟨p1, e, h1⟩ := hb j d acc st (Nat.le_refl _) (by simp) h0
    rw [e]
    dsimp only
    have len : j + (d :: ds).length = j + 1 + ds.length := by rw [List.length_cons]; omega
    have go : ∀ acc' st', I (j + 1) acc' st' → ∀ {Q' : List D → Store → Prop}, (∀ ys st, I (j + 1 + ds.length) (acc' ++ ys) st → Q' ys st) → Ev (compGo still tg tt te p ds st') Q' := fun acc' st' h Q' k =>
      ev_comp I ds (j + 1) acc' st' h (fun i a st x y => hs i a st (by omega) (by simp only [List.length_cons]; omega))
        (fun i d a st x b => hb i d a st (by omega) (by
          have : i - j = (i - (j + 1)) + 1 := by omega
          rw [this, List.getElem?_cons_succ]; exact b)) k
    show EvX _ _ _
    rw [ev_bind, ev_noX]
    refine h1.mono fun b st1 h2 => ?_
    cases b with
    | true =>
      rw [if_pos rfl] at h2 ⊢
      show EvX _ _ _
      rw [ev_bind, ev_noX]
      refine h2.mono fun y st2 h3 => ?_
      show EvX _ _ _
      rw [ev_bind]
      refine go _ _ h3 fun ys st h4 => hn (y :: ys) st ?_
      rw [len]
      simpa using h4
    | false =>
      rw [if_neg (by simp)] at h2 ⊢
      exact go _ _ h2 fun ys st h4 => hn ys st (by rw [len]; exact h4)
/-- a comprehension that leaves the store alone -/
theorem ev_compP {still : Store → Prop} {tg : TgF} {tt : TF1} {te : EF} {Q : List D → Store → Prop} (f : D → Bool) (g : D → D) {items : List D} (hs : still st) (hb : ∀ d ∈ items, ∃ p1, tg d p st = some p1 ∧ tt p1 st = .ok (f d) st ∧ (f d = true → te p1 st = .ok (g d) st))
    (h : Q ((items.filter f).map g) st) : Ev (compGo still tg tt te p items st) Q := by
  have key : ∀ items : List D, (∀ d ∈ items, ∃ p1, tg d p st = some p1 ∧ tt p1 st = .ok (f d) st ∧ (f d = true → te p1 st = .ok (g d) st)) → compGo still tg tt te p items st = .ok ((items.filter f).map g) st := by
    intro items
    induction items with
    | nil => intro _; unfold compGo; rw [if_pos hs]; rfl
    | cons d ds ih =>
      intro hb
      have ih := ih fun d hd => hb d (List.mem_cons_of_mem _ hd)
      obtain ⟨p1, e1, e2, e3⟩ := hb d List.mem_cons_self
      unfold compGo
      rw [if_pos hs, e1]
      dsimp only
      rw [e2]
      simp only [noX, bindR]
      cases hf : f d with
      | true => rw [if_pos rfl, e3 hf, List.filter_cons_of_pos hf]; simp only [noX, bindR, ih, List.map_cons]
      | false => rw [if_neg (by simp), ih, List.filter_cons_of_neg (by simp [hf])]
  rw [key items hb]
  exact h
end
end Mi
set_option Elab.async false
set_option linter.all false
set_option maxRecDepth 100000
set_option maxHeartbeats 4000000
/-! Mp1: whole values in a store of which some places change. -/
namespace Mi
open PySem
/-- the store without the places that change -/
def look (L : List Nat) (st : Store) (l : Nat) : Option O := if l ∈ L then none else st[l]?
/-- all but the places L stands as it stood -/
def Grow (L : List Nat) (st st' : Store) : Prop := st.length ≤ st'.length ∧ ∀ l o, l ∉ L → st[l]? = some o → st'[l]? = some o
section
variable {L : List Nat} {st st' st'' : Store}
theorem Grow.refl : Grow L st st := ⟨Nat.le_refl _, fun _ _ _ h => h⟩
theorem Grow.trans (a : Grow L st st') (b : Grow L st' st'') : Grow L st st'' := ⟨Nat.le_trans a.1 b.1, fun l o h e => b.2 l o h (a.2 l o h e)⟩
theorem Grow.app (x : List O) : Grow L st (st ++ x) := ⟨by simp, fun l o _ h => by rw [List.getElem?_append_left (List.getElem?_eq_some_iff.mp h).1]; exact h⟩
theorem Grow.set {l : Nat} (o : O) (h : l ∈ L) : Grow L st (st.set l o) := ⟨by simp, fun i u hi e => by rw [List.getElem?_set_ne (fun q : l = i => hi (by rw [← q]; exact h))]; exact e⟩
theorem Grow.set' {l : Nat} (o : O) (hl : st[l]? = none) : Grow L st (st.set l o) := by
  rw [List.set_eq_of_length_le (List.getElem?_eq_none_iff.mp hl)]; exact Grow.refl
theorem Grow.weak {L' : List Nat} (h : ∀ l ∈ L, l ∈ L') (g : Grow L st st') : Grow L' st st' := ⟨g.1, fun l o hl e => g.2 l o (fun q => hl (h l q)) e⟩
theorem Grow.look (g : Grow L st st') {l : Nat} {o : O} (h : look L st l = some o) : Mi.look L st' l = some o := by
  unfold Mi.look at h ⊢
  split at h
  · cases h
  · rename_i hl; rw [if_neg hl]; exact g.2 l o hl h
end
/-- the whole value, at most n deep, none of the script -/
def datM : Nat → (Nat → Option O) → D → Option PyData
  | 0, _, _ => none
  | n + 1, m, d => match d with
    | .non => some .none
    | .bl b => some (.bool b)
    | .int i => some (.int i)
    | .str x => some (.str x)
    | .tup ds => (datL (datM n m) ds).map .tuple
    | .scr _ => none
    | .exn .. => none
    | .ref l => match m l with
      | some (.lst ds) => (datL (datM n m) ds).map .list
      | some (.dic kvs) => (datK (datM n m) kvs).map .dict
      | _ => none
theorem datL_mono {f g : D → Option PyData} (h : ∀ d t, f d = some t → g d = some t) : ∀ {ds : List D} {ts : List PyData}, datL f ds = some ts → datL g ds = some ts
  | [], ts, e => e
  | d :: ds, ts, e => by
    simp only [datL] at e ⊢
    obtain ⟨t, e1, e⟩ := Option.bind_eq_some_iff.mp e
    obtain ⟨tr, e2, rfl⟩ := Option.map_eq_some_iff.mp e
    rw [h d t e1, Option.bind_some, datL_mono h e2]; rfl
theorem datK_mono {f g : D → Option PyData} (h : ∀ d t, f d = some t → g d = some t) : ∀ {ds : List (L2.Key × D)} {ts : List (PyData × PyData)}, datK f ds = some ts → datK g ds = some ts
  | [], ts, e => e
  | (k, d) :: ds, ts, e => by
    simp only [datK] at e ⊢
    obtain ⟨t, e1, e⟩ := Option.bind_eq_some_iff.mp e
    obtain ⟨tr, e2, rfl⟩ := Option.map_eq_some_iff.mp e
    rw [h d t e1, Option.bind_some, datK_mono h e2]; rfl
theorem datM_mono : ∀ {n k : Nat} {m m' : Nat → Option O} {d : D} {t : PyData}, n ≤ k → (∀ l o, m l = some o → m' l = some o) → datM n m d = some t → datM k m' d = some t
  | 0, _, _, _, _, _, _, _, e => by cases e
  | n + 1, 0, _, _, _, _, h, _, _ => by omega
  | n + 1, k + 1, m, m', d, t, hn, hm, e => by
    have ih : ∀ d t, datM n m d = some t → datM k m' d = some t := fun d t e => datM_mono (by omega) hm e
    cases d with
    | tup ds =>
      simp only [datM] at e ⊢
      obtain ⟨ts, e1, rfl⟩ := Option.map_eq_some_iff.mp e
      rw [datL_mono ih e1]; rfl
    | ref l =>
      simp only [datM] at e ⊢
      cases hl : m l with
      | none => rw [hl] at e; cases e
      | some o =>
        rw [hl] at e
        rw [hm l o hl]
        cases o with
        | lst ds =>
          obtain ⟨ts, e1, rfl⟩ := Option.map_eq_some_iff.mp e
          simp only [datL_mono ih e1]; rfl
        | dic kvs =>
          obtain ⟨ts, e1, rfl⟩ := Option.map_eq_some_iff.mp e
          simp only [datK_mono ih e1]; rfl
        | err _ _ => cases e
    | scr ns => cases e
    | exn => cases e
    | _ => exact e
theorem datN_of {L : List Nat} {st : Store} : ∀ {n : Nat} {d : D} {t : PyData}, datM n (look L st) d = some t → datN n st d = some t
  | 0, _, _, e => by cases e
  | n + 1, d, t, e => by
    have ih : ∀ d t, datM n (look L st) d = some t → datN n st d = some t := fun d t e => datN_of e
    cases d with
    | tup ds =>
      simp only [datM, datN] at e ⊢
      obtain ⟨ts, e1, rfl⟩ := Option.map_eq_some_iff.mp e
      rw [datL_mono ih e1]; rfl
    | ref l =>
      simp only [datM, datN] at e ⊢
      cases hl : look L st l with
      | none => rw [hl] at e; cases e
      | some o =>
        rw [hl] at e
        have hl' : st[l]? = some o := by
          unfold look at hl
          split at hl
          · cases hl
          · exact hl
        rw [hl']
        cases o with
        | lst ds =>
          obtain ⟨ts, e1, rfl⟩ := Option.map_eq_some_iff.mp e
          simp only [datL_mono ih e1]; rfl
        | dic kvs =>
          obtain ⟨ts, e1, rfl⟩ := Option.map_eq_some_iff.mp e
          simp only [datK_mono ih e1]; rfl
        | err _ _ => cases e
    | scr ns => cases e
    | exn => cases e
    | _ => exact e
theorem datN_mono {n k : Nat} {st : Store} {d : D} {t : PyData} (hn : n ≤ k) : ∀ {n k : Nat} {d : D} {t : PyData}, n ≤ k → datN n st d = some t → datN k st d = some t := by
  intro n
  induction n with
  | zero => intro k d t _ e; cases e
  | succ n ih =>
    intro k d t hk e
    cases k with
    | zero => omega
    | succ k =>
      have ih : ∀ d t, datN n st d = some t → datN k st d = some t := fun d t e => ih (by omega) e
      cases d with
      | tup ds =>
        simp only [datN] at e ⊢
        obtain ⟨ts, e1, rfl⟩ := Option.map_eq_some_iff.mp e
        rw [datL_mono ih e1]; rfl
      | ref l =>
        simp only [datN] at e ⊢
        cases hl : st[l]? with
        | none => rw [hl] at e; cases e
        | some o =>
          rw [hl] at e
          cases o with
          | lst ds =>
            obtain ⟨ts, e1, rfl⟩ := Option.map_eq_some_iff.mp e
            simp only [datL_mono ih e1]; rfl
          | dic kvs =>
            obtain ⟨ts, e1, rfl⟩ := Option.map_eq_some_iff.mp e
            simp only [datK_mono ih e1]; rfl
          | err _ _ => cases e
      | _ => exact e

/-! ### sizes -/
/-- bounds of leaves: ints below i, texts of at most s signs -/
structure Bd where
  i : Nat
  s : Nat
instance : LE Bd := ⟨fun a b => a.i ≤ b.i ∧ a.s ≤ b.s⟩
theorem Bd.le {B : Bd} : B ≤ B := ⟨Nat.le_refl _, Nat.le_refl _⟩
theorem Bd.tr {A B C : Bd} (h : A ≤ B) (h' : B ≤ C) : A ≤ C := ⟨Nat.le_trans h.1 h'.1, Nat.le_trans h.2 h'.2⟩
def b0 : Bd := ⟨10 ^ 40, 10⟩
def topB : Bd := ⟨10 ^ 50, 16777216⟩
def Bd.up (B : Bd) : Bd := ⟨B.i + 10 ^ 31, 9 * B.s + 60⟩
theorem Bd.le_up {B : Bd} : B ≤ B.up := ⟨Nat.le_add_right _ _, by show B.s ≤ 9 * B.s + 60; omega⟩
theorem b0_top : b0 ≤ topB := ⟨by decide +kernel, by decide⟩
mutual
/-- texts of ASCII, ints below B -/
def leafB (B : Bd) : PyData → Prop
  | .none | .bool _ => True
  | .int i => i.natAbs < B.i
  | .str x => (∀ c ∈ x.cps.toList, c < 128) ∧ x.length ≤ B.s
  | .list xs | .tuple xs => leafBs B xs
  | .dict kvs => leafBk B kvs
def leafBs (B : Bd) : List PyData → Prop
  | [] => True
  | x :: xs => leafB B x ∧ leafBs B xs
def leafBk (B : Bd) : List (PyData × PyData) → Prop
  | [] => True
  | (k, v) :: r => leafB B k ∧ leafB B v ∧ leafBk B r
end
mutual
theorem leafB_mono {B C : Bd} (h : B ≤ C) : ∀ t, leafB B t → leafB C t
  | .none, _ => trivial
  | .bool _, _ => trivial
  | .int i, q => Nat.lt_of_lt_of_le q h.1
  | .str x, q => ⟨q.1, Nat.le_trans q.2 h.2⟩
  | .list xs, q => leafBs_mono h xs q
  | .tuple xs, q => leafBs_mono h xs q
  | .dict kvs, q => leafBk_mono h kvs q
theorem leafBs_mono {B C : Bd} (h : B ≤ C) : ∀ t, leafBs B t → leafBs C t
  | [], _ => trivial
  | x :: xs, q => ⟨leafB_mono h x q.1, leafBs_mono h xs q.2⟩
theorem leafBk_mono {B C : Bd} (h : B ≤ C) : ∀ t, leafBk B t → leafBk C t
  | [], _ => trivial
  | (k, v) :: xs, q => ⟨leafB_mono h k q.1, leafB_mono h v q.2.1, leafBk_mono h xs q.2.2⟩
end
theorem int_short {i : Int} (h : i.natAbs < 10 ^ 50) : (Str.ofString (toString i)).length ≤ 60 := by
  have e := int_text_length_le10 (k := 50) (by decide) h
  rw [ofString_length]
  omega
theorem int_shows {i : Int} (h : i.natAbs < 10 ^ 50) : i.natAbs.log2 < 1920 := by
  have : i.natAbs < 2 ^ 1000 := Nat.lt_of_lt_of_le h (by decide +kernel)
  by_cases h0 : i.natAbs = 0
  · rw [h0]; decide
  · have := (Nat.log2_lt h0).mpr this
    omega
mutual
theorem leaf_short : ∀ t, leafB topB t → t.leavesShort 60 = true ∧ t.showable = true
  | .none, _ => ⟨rfl, rfl⟩
  | .bool _, _ => ⟨rfl, rfl⟩
  | .int i, q => ⟨by
      show decide ((PyData.shown (.int i)).length ≤ 60) = true
      exact decide_eq_true (int_short q), by simp only [PyData.showable, decide_eq_true_eq]; exact int_shows q⟩
  | .str x, q => ⟨by simp only [PyData.leavesShort, List.all_eq_true, decide_eq_true_eq]; exact fun c hc => Nat.lt_of_lt_of_le (q.1 c hc) (by decide), rfl⟩
  | .list xs, q => by
    have := leafs_short xs q
    exact ⟨by simpa only [PyData.leavesShort] using this.1, by simpa only [PyData.showable] using this.2⟩
  | .tuple xs, q => by
    have := leafs_short xs q
    exact ⟨by simpa only [PyData.leavesShort] using this.1, by simpa only [PyData.showable] using this.2⟩
  | .dict xs, q => by
    have := leafk_short xs q
    exact ⟨by simpa only [PyData.leavesShort] using this.1, by simpa only [PyData.showable] using this.2⟩
theorem leafs_short : ∀ t, leafBs topB t → PyData.leavesShortAll 60 t = true ∧ PyData.showableAll t = true
  | [], _ => ⟨rfl, rfl⟩
  | x :: xs, q => by
    have a := leaf_short x q.1
    have b := leafs_short xs q.2
    exact ⟨by simp only [PyData.leavesShortAll, a.1, b.1, Bool.and_self], by simp only [PyData.showableAll, a.2, b.2, Bool.and_self]⟩
theorem leafk_short : ∀ t, leafBk topB t → PyData.leavesShortKv 60 t = true ∧ PyData.showableKv t = true
  | [], _ => ⟨rfl, rfl⟩
  | (k, v) :: xs, q => by
    have a := leaf_short k q.1
    have c := leaf_short v q.2.1
    have b := leafk_short xs q.2.2
    exact ⟨by simp only [PyData.leavesShortKv, a.1, b.1, c.1, Bool.and_self], by simp only [PyData.showableKv, a.2, b.2, c.2, Bool.and_self]⟩
end
/-- a whole value: at most n deep, of weight w at most, its leaves below B -/
def Val (L : List Nat) (st : Store) (B : Bd) (n w : Nat) (d : D) : Prop := ∃ t, datM n (look L st) d = some t ∧ leafB B t ∧ t.weight ≤ w
def Vls (L : List Nat) (st : Store) (B : Bd) (n w : Nat) (ds : List D) : Prop := ∃ ts, datL (datM n (look L st)) ds = some ts ∧ leafBs B ts ∧ PyData.weightAll ts ≤ w
section
variable {L : List Nat} {st st' : Store} {B C : Bd} {n k w v : Nat} {d : D} {ds : List D}
theorem Val.mono (h : Val L st B n w d) (hB : B ≤ C) (hn : n ≤ k) (hw : w ≤ v) : Val L st C k v d := by
  obtain ⟨t, e, l, hw'⟩ := h
  exact ⟨t, datM_mono hn (fun _ _ h => h) e, leafB_mono hB t l, Nat.le_trans hw' hw⟩
theorem Val.grow (h : Val L st B n w d) (g : Grow L st st') : Val L st' B n w d := by
  obtain ⟨t, e, r⟩ := h
  exact ⟨t, datM_mono (Nat.le_refl _) (fun _ _ h => g.look h) e, r⟩
theorem Vls.grow (h : Vls L st B n w ds) (g : Grow L st st') : Vls L st' B n w ds := by
  obtain ⟨t, e, r⟩ := h
  exact ⟨t, datL_mono (fun _ _ q => datM_mono (Nat.le_refl _) (fun _ _ h => g.look h) q) e, r⟩
theorem Vls.mono (h : Vls L st B n w ds) (hB : B ≤ C) (hn : n ≤ k) (hw : w ≤ v) : Vls L st C k v ds := by
  obtain ⟨t, e, l, hw'⟩ := h
  exact ⟨t, datL_mono (fun _ _ q => datM_mono hn (fun _ _ h => h) q) e, leafBs_mono hB t l, Nat.le_trans hw' hw⟩
theorem Vls.nil : Vls L st B n w [] := ⟨[], rfl, trivial, Nat.zero_le _⟩
theorem Vls.cons (h : Val L st B n w d) (h' : Vls L st B n v ds) : Vls L st B n (w + 1 + v) (d :: ds) := by
  obtain ⟨t, e, l, hw⟩ := h
  obtain ⟨ts, e2, l2, hw2⟩ := h'
  exact ⟨t :: ts, by simp only [datL, e, e2]; rfl, ⟨l, l2⟩, by simp only [PyData.weightAll]; omega⟩
theorem Vls.inv (h : Vls L st B n w (d :: ds)) : ∃ a b, Val L st B n a d ∧ Vls L st B n b ds ∧ a + 1 + b ≤ w := by
  obtain ⟨ts, e, l, hw⟩ := h
  simp only [datL] at e
  obtain ⟨t, e1, e⟩ := Option.bind_eq_some_iff.mp e
  obtain ⟨tr, e2, rfl⟩ := Option.map_eq_some_iff.mp e
  exact ⟨t.weight, PyData.weightAll tr, ⟨t, e1, l.1, Nat.le_refl _⟩, ⟨tr, e2, l.2, Nat.le_refl _⟩, by simpa only [PyData.weightAll] using hw⟩
theorem Vls.append : ∀ {ds es : List D} {w v : Nat}, Vls L st B n w ds → Vls L st B n v es → Vls L st B n (w + v) (ds ++ es)
  | [], es, w, v, _, h' => h'.mono Bd.le (Nat.le_refl _) (by omega)
  | d :: ds, es, w, v, h, h' => by
    obtain ⟨a, b, h1, h2, hw⟩ := h.inv
    exact (Vls.cons h1 (Vls.append h2 h')).mono Bd.le (Nat.le_refl _) (by omega)
theorem Vls.split : ∀ (i : Nat) {ds : List D} {w : Nat}, Vls L st B n w ds → ∃ a b, Vls L st B n a (ds.take i) ∧ Vls L st B n b (ds.drop i) ∧ a + b ≤ w
  | 0, ds, w, h => ⟨0, w, by simpa using Vls.nil, by simpa using h, by omega⟩
  | i + 1, [], w, h => ⟨0, 0, by simpa using Vls.nil, by simpa using Vls.nil, by omega⟩
  | i + 1, d :: ds, w, h => by
    obtain ⟨a, b, h1, h2, hw⟩ := h.inv
    obtain ⟨c, e, h3, h4, hw2⟩ := Vls.split i h2
    exact ⟨a + 1 + c, e, by simpa using Vls.cons h1 h3, by simpa using h4, by omega⟩
theorem Vls.take (i : Nat) (h : Vls L st B n w ds) : Vls L st B n w (ds.take i) := by
  obtain ⟨a, b, h1, _, hw⟩ := h.split i
  exact h1.mono Bd.le (Nat.le_refl _) (by omega)
theorem Vls.drop (i : Nat) (h : Vls L st B n w ds) : Vls L st B n w (ds.drop i) := by
  obtain ⟨a, b, _, h1, hw⟩ := h.split i
  exact h1.mono Bd.le (Nat.le_refl _) (by omega)
theorem Vls.reverse : ∀ {ds : List D} {w : Nat}, Vls L st B n w ds → Vls L st B n w ds.reverse
  | [], w, h => h
  | d :: ds, w, h => by
    obtain ⟨a, b, h1, h2, hw⟩ := h.inv
    rw [List.reverse_cons]
    exact ((Vls.reverse h2).append (Vls.cons h1 (Vls.nil (w := 0)))).mono Bd.le (Nat.le_refl _) (by omega)
theorem Vls.get : ∀ {ds : List D} {w : Nat} {i : Nat}, Vls L st B n w ds → ds[i]? = some d → Val L st B n w d
  | [], w, i, _, e => by simp at e
  | d0 :: ds, w, i, h, e => by
    obtain ⟨a, b, h1, h2, hw⟩ := h.inv
    cases i with
    | zero => simp at e; subst e; exact h1.mono Bd.le (Nat.le_refl _) (by omega)
    | succ i => exact (Vls.get h2 (by simpa using e)).mono Bd.le (Nat.le_refl _) (by omega)
theorem Vls.len : ∀ {ds : List D} {w : Nat}, Vls L st B n w ds → ds.length ≤ w
  | [], w, _ => Nat.zero_le _
  | d0 :: ds, w, h => by
    obtain ⟨a, b, h1, h2, hw⟩ := h.inv
    have := Vls.len h2
    rw [List.length_cons]; omega
theorem val_tup (h : Vls L st B n w ds) : Val L st B (n + 1) w (.tup ds) := by
  obtain ⟨ts, e, l, hw⟩ := h
  exact ⟨.tuple ts, by simp only [datM, e]; rfl, l, hw⟩
theorem val_lst {l : Nat} (hl : l ∉ L) (e0 : st[l]? = some (.lst ds)) (h : Vls L st B n w ds) : Val L st B (n + 1) w (.ref l) := by
  obtain ⟨ts, e, l', hw⟩ := h
  exact ⟨.list ts, by simp only [datM, look, if_neg hl, e0, e]; rfl, l', hw⟩
theorem val_dic0 {l : Nat} (hl : l ∉ L) (e0 : st[l]? = some (.dic [])) : Val L st B (n + 1) w (.ref l) :=
  ⟨.dict [], by simp only [datM, look, if_neg hl, e0]; rfl, trivial, Nat.zero_le _⟩
theorem val_non : Val L st B (n + 1) w .non := ⟨.none, rfl, trivial, Nat.zero_le _⟩
theorem val_bl (b : Bool) : Val L st B (n + 1) w (.bl b) := ⟨.bool b, rfl, trivial, Nat.zero_le _⟩
theorem val_int {i : Int} (h : i.natAbs < B.i) (hw : i.natAbs < 2 ^ w) : Val L st B (n + 1) w (.int i) := by
  refine ⟨.int i, rfl, h, ?_⟩
  simp only [PyData.weight]
  split
  · exact Nat.zero_le _
  · rename_i h0
    have : i.natAbs ≠ 0 := by
      intro q
      apply h0
      have := Int.natAbs_eq_zero.mp q
      rw [this]; rfl
    have := (Nat.log2_lt this).mpr hw
    omega
theorem val_str {z : Str} (h : ∀ c ∈ z.cps.toList, c < 128) (hw : z.length ≤ w) (hs : z.length ≤ B.s) : Val L st B (n + 1) w (.str z) := ⟨.str z, rfl, ⟨h, hs⟩, hw⟩
theorem Val.tup_inv (h : Val L st B n w (.tup ds)) : ∃ k, n = k + 1 ∧ Vls L st B k w ds := by
  obtain ⟨t, e, l, hw⟩ := h
  cases n with
  | zero => cases e
  | succ n =>
    simp only [datM] at e
    obtain ⟨ts, e1, rfl⟩ := Option.map_eq_some_iff.mp e
    exact ⟨n, rfl, ts, e1, l, hw⟩
theorem Val.str_inv {z : Str} (h : Val L st B n w (.str z)) : (∀ c ∈ z.cps.toList, c < 128) ∧ z.length ≤ w ∧ z.length ≤ B.s := by
  obtain ⟨t, e, l, hw⟩ := h
  cases n with
  | zero => cases e
  | succ n => cases e; exact ⟨l.1, hw, l.2⟩
theorem Val.int_inv {i : Int} (h : Val L st B n w (.int i)) : i.natAbs < B.i := by
  obtain ⟨t, e, l, hw⟩ := h
  cases n with
  | zero => cases e
  | succ n => cases e; exact l
theorem Val.ref_inv {l : Nat} (h : Val L st B n w (.ref l)) : l ∉ L ∧ ((∃ ds, st[l]? = some (.lst ds)) ∨ ∃ kvs, st[l]? = some (.dic kvs)) := by
  obtain ⟨t, e, _, hw⟩ := h
  cases n with
  | zero => cases e
  | succ n =>
    simp only [datM, look] at e
    by_cases hl : l ∈ L
    · rw [if_pos hl] at e; cases e
    · rw [if_neg hl] at e
      refine ⟨hl, ?_⟩
      cases q : st[l]? with
      | none => rw [q] at e; cases e
      | some o => cases o with
        | lst ds => exact .inl ⟨_, rfl⟩
        | dic kvs => exact .inr ⟨_, rfl⟩
        | err _ _ => rw [q] at e; cases e
theorem Val.no_scr {ns : List Int} (h : Val L st B n w (.scr ns)) : False := by
  obtain ⟨t, e, _⟩ := h
  cases n <;> cases e
theorem Val.no_exn {a dd : Addr} {ks : List Str} {xs : List D} (h : Val L st B n w (.exn a dd ks xs)) : False := by
  obtain ⟨t, e, _⟩ := h
  cases n <;> cases e
theorem Val.pos (h : Val L st B n w d) : 0 < n := by
  obtain ⟨t, e, _⟩ := h
  cases n with
  | zero => cases e
  | succ n => omega
theorem Vls.one (h : Val L st B n w d) : Vls L st B n (w + 1) [d] := (Vls.cons h (Vls.nil (w := 0)))
/-- repr of what is not too great -/
theorem repr_val {Q : D → Store → Prop} (h : Val L st topB n w d) (hn : n ≤ 150) (hw : w ≤ 270000) (k : ∀ z, (∀ st', Grow L st st' → ∀ {Q' : D → Store → Prop}, Q' (.str z) st' → EvO (reprF [d] st') Q') → Q (.str z) st) : EvO (reprF [d] st) Q := by
  obtain ⟨t, e, l, hw'⟩ := h
  have sh := leaf_short t l
  have hl : t.shown.length ≤ LIM := by
    have := PyData.shown_le 60 (by decide) t sh.1
    have h2 : (60 + 2) * t.weight ≤ (60 + 2) * 270000 := Nat.mul_le_mul_left _ (by omega)
    show t.shown.length ≤ 16777216
    omega
  have key : ∀ st', Grow L st st' → ∀ {Q' : D → Store → Prop}, Q' (.str t.shown) st' → EvO (reprF [d] st') Q' := fun st' g Q' q => by
    have e2 : datN 150 st' d = some t := datN_of (datM_mono hn (fun _ _ h => g.look h) e)
    simp only [reprF, e2, Option.bind_some]
    rw [if_pos ⟨sh.2, hl⟩]
    exact q
  exact key st Grow.refl (k _ key)
end
end Mi
set_option Elab.async false
set_option linter.all false
set_option maxRecDepth 100000
set_option maxHeartbeats 4000000
/-! Mp2: what operations answer. -/
namespace Mi
open PySem
section
variable {st : Store} {Q : D → Store → Prop}
theorem o_dic {l : Nat} {kvs : List (L2.Key × D)} {k : Str} {d : D} (h : st[l]? = some (.dic kvs)) (h2 : kvGet kvs (Sum.inr k) = some d) : EvO (ixF (.ref l) (.str k) st) Q = Q d st := by
  simp only [ixF, h, h2]; rfl
theorem o_lst {l : Nat} {ds : List D} {i : Int} {d : D} (h : st[l]? = some (.lst ds)) (h2 : L2.atI ds i = some d) : EvO (ixF (.ref l) (.int i) st) Q = Q d st := by
  simp only [ixF, h, h2]; rfl
theorem o_tup {ds : List D} {i : Int} {d : D} (h2 : L2.atI ds i = some d) : EvO (ixF (.tup ds) (.int i) st) Q = Q d st := by
  simp only [ixF, h2]; rfl
theorem atI_ofNat {α : Type} {ds : List α} {i : Int} (h0 : 0 ≤ i) (h1 : i < ds.length) : ∃ d, L2.atI ds i = some d ∧ ds[i.toNat]? = some d := by
  have hk : i.toNat < ds.length := by omega
  have e : i = ((i.toNat : Nat) : Int) := by omega
  refine ⟨ds[i.toNat], ?_, List.getElem?_eq_getElem hk⟩
  have := L2.atI_nat  (List.getElem?_eq_getElem hk)
  rwa [← e] at this
theorem o_add {a b : Int} : EvO (addF (.int a) (.int b) st) Q = Q (.int (a + b)) st := rfl
theorem o_sub {a b : Int} : EvO (subF (.int a) (.int b) st) Q = Q (.int (a - b)) st := rfl
theorem o_neg {a : Int} : EvO (negF (.int a) st) Q = Q (.int (-a)) st := rfl
theorem log2_le {a : Nat} {k : Nat} (h : a < 2 ^ k) : a.log2 ≤ k := by
  by_cases h0 : a = 0
  · subst h0; simp
  · have := (Nat.log2_lt h0).mpr h; omega
theorem o_mul {a b : Int} (ha : a.natAbs < 2 ^ 200) (hb : b.natAbs < 2 ^ 200) : EvO (mulF (.int a) (.int b) st) Q = Q (.int (a * b)) st := by
  have h1 := log2_le ha
  have h2 := log2_le hb
  simp only [mulF]
  rw [if_pos (by omega)]
  rfl
theorem o_mod {a b : Int} (h : 0 < b) : EvO (modF (.int a) (.int b) st) Q = Q (.int (a % b)) st := by
  simp only [modF, if_pos h]; rfl
theorem o_fdiv {a b : Int} (h : 0 < b) (hb : b.natAbs < 2 ^ 200) : EvO (fdivF (.int a) (.int b) st) Q = Q (.int (a / b)) st := by
  have h1 := log2_le hb
  simp only [fdivF]
  rw [if_pos ⟨h, by omega⟩]
  rfl
theorem o_pow {a b : Int} (h : 0 ≤ b) (hb : b ≤ 1000000) (ha : a.natAbs < 2 ^ 64) : EvO (powF (.int a) (.int b) st) Q = Q (.int (a ^ b.toNat)) st := by
  simp only [powF]
  rw [if_pos ⟨h, hb, ha⟩]
  rfl
theorem o_cmp {p : Int → Int → Bool} {a b : Int} : EvO (cmpI p (.int a) (.int b) st) Q = Q (.bl (p a b)) st := rfl
theorem o_opB {f : D → D → Store → Option Bool} {x y : D} {b : Bool} (h : f x y st = some b) : EvO (opB f x y st) Q = Q (.bl b) st := by simp only [opB, h]; rfl
theorem o_mkLst {ds : List D} (h : ds.length ≤ LIM) : EvO (mkLst ds st) Q = Q (.ref st.length) (st ++ [.lst ds]) := by simp only [mkLst, if_pos h]; rfl
theorem o_mkTup {ds : List D} (h : ds.length ≤ LIM) : EvO (mkTup ds st) Q = Q (.tup ds) st := by simp only [mkTup, if_pos h]; rfl
theorem o_mkDic {kvs : List (L2.Key × D)} (h : kvs.length ≤ 15) : EvO (mkDic kvs st) Q = Q (.ref st.length) (st ++ [.dic (kvMerge kvs)]) := by simp only [mkDic, if_pos h]; rfl
theorem eqn_nil {n l m : Nat} {xs : List D} (h : st[l]? = some (.lst xs)) (h2 : st[m]? = some (.lst [])) : eqN (n + 1) st (.ref l) (.ref m) = some xs.isEmpty := by
  unfold eqN
  dsimp only
  rw [h]
  dsimp only
  rw [h2]
  cases xs with
  | nil => rfl
  | cons _ _ => rfl
theorem eqn_pos : ∃ n, EQN = n + 1 := ⟨59, rfl⟩
theorem eq_nil {l m : Nat} {xs : List D} (h : st[l]? = some (.lst xs)) (h2 : st[m]? = some (.lst [])) : eqF (.ref l) (.ref m) st = some xs.isEmpty := by
  obtain ⟨n, e⟩ := eqn_pos
  unfold eqF
  rw [e]
  exact eqn_nil h h2
theorem ne_nil {l m : Nat} {xs : List D} (h : st[l]? = some (.lst xs)) (h2 : st[m]? = some (.lst [])) : neF (.ref l) (.ref m) st = some (!xs.isEmpty) := by
  have e := eq_nil h h2
  unfold eqF at e
  unfold neF
  rw [e]
  have a : isDicF (.ref l) st = false := by unfold isDicF; dsimp only; rw [h]
  have b : isDicF (.ref m) st = false := by unfold isDicF; dsimp only; rw [h2]
  rw [a, b]
  rfl
theorem o_pop {l : Nat} {ds : List D} {d : D} (h : st[l]? = some (.lst ds)) (h2 : ds.getLast? = some d) : EvO (popF (.ref l) [] st) Q = Q d (st.set l (.lst ds.dropLast)) := by
  simp only [popF, h, h2]; rfl
theorem o_app {l : Nat} {ds : List D} {d : D} (h : st[l]? = some (.lst ds)) (h2 : ds.length < LIM) : EvO (appF (.ref l) [d] st) Q = Q .non (st.set l (.lst (ds ++ [d]))) := by
  simp only [appF, h, if_pos h2]; rfl
theorem ty_lst {l : Nat} {ds : List D} (h : st[l]? = some (.lst ds)) : tyD "list" (.ref l) st := .inl ⟨rfl, ds, h⟩
theorem set_str {l : Nat} {kvs : List (L2.Key × D)} {k : Str} {d : D} (h : st[l]? = some (.dic kvs)) (h2 : kvs.length < LIM) : setItemF (.ref l) (.str k) d st = some (st.set l (.dic (kvPut kvs (Sum.inr k) d))) := by
  simp only [setItemF, h, if_pos h2]
theorem o_lenT {ds : List D} : EvO (lenF [.tup ds] st) Q = Q (.int ds.length) st := rfl
theorem o_lenS {z : Str} (h : z.length ≤ LIM) : EvO (lenF [.str z] st) Q = Q (.int z.length) st := by simp only [lenF, if_pos h]; rfl
theorem o_lenL {l : Nat} {ds : List D} (h : st[l]? = some (.lst ds)) : EvO (lenF [.ref l] st) Q = Q (.int ds.length) st := by simp only [lenF, h]; rfl
theorem get_app {l : Nat} {o : O} {x : List O} (h : st[l]? = some o) : (st ++ x)[l]? = some o := by rw [List.getElem?_append_left (List.getElem?_eq_some_iff.mp h).1]; exact h
theorem get_new {o : O} : (st ++ [o])[st.length]? = some o := by simp
theorem get_set {l : Nat} {o u : O} (h : st[l]? = some u) : (st.set l o)[l]? = some o := List.getElem?_set_self (List.getElem?_eq_some_iff.mp h).1
theorem get_ne {l m : Nat} {o u : O} (h : st[l]? = some u) (hm : m ≠ l) : (st.set m o)[l]? = some u := by rw [List.getElem?_set_ne hm]; exact h
end
end Mi
set_option Elab.async false
set_option linter.all false
set_option maxRecDepth 100000
set_option maxHeartbeats 4000000
/-! Mp3: errors over plain data: raise, try, ranges. -/
namespace Mi
open PySem
section
variable {Q : D → Store → Prop} {p : Rho} {st : Store} {E : En} {Y : Exc → Store → Prop}
theorem evs_raise (x f : Str) (a : EF) : EvS (sRaise x f a p st) E = EvX (fun e st => E.xc e p st) (a p st) fun d st1 => E.xc ⟨x, [(f, d)]⟩ p st1 := by simp only [sRaise, evs_bind]; rfl
theorem evs_try {i : Nat} {sub : Str → Option Bool} {fb : SF} {fS : Addr → Addr → Str → SF}
    (h : EvS (fb p st) { E with xc := fun e p1 st1 => match sub e.cls with
      | some true => ∃ r, (∀ a dd, forgetS i (fS a dd e.cls (p1.set i (some (.exn a dd (e.fs.map (·.1)) (e.fs.map (·.2))))) st1) = r) ∧ EvS r E
      | some false => E.xc e p1 st1
      | none => False }) : EvS (sTry i sub fb fS p st) E := by
  unfold sTry
  cases hr : fb p st with
  | nx p1 st1 => rw [hr] at h; exact h
  | rt d st1 => rw [hr] at h; exact h
  | bk p1 st1 => rw [hr] at h; exact h
  | ct p1 st1 => rw [hr] at h; exact h
  | bad => rw [hr] at h; exact h
  | xc e p1 st1 =>
    rw [hr] at h
    simp only [EvS] at h
    cases hb : sub e.cls with
    | none => rw [hb] at h; exact h.elim
    | some b =>
      rw [hb] at h
      cases b with
      | true =>
        obtain ⟨r, h1, h2⟩ := h
        simp only [hb]
        rw [glue_eq (g := fun ad : Addr × Addr => forgetS i (fS ad.1 ad.2 e.cls (p1.set i (some (.exn ad.1 ad.2 (e.fs.map (·.1)) (e.fs.map (·.2))))) st1)) (0, 0) fun ad => h1 ad.1 ad.2]
        exact h2
      | false =>
        simp only [hb]
        exact h
theorem ev_inRg (neg : Bool) (a lo hi : EF) : EvX Y (inRgF neg a lo hi p st) Q = EvX Y (a p st) fun x st1 => EvX Y (lo p st1) fun l st2 => EvX Y (hi p st2) fun h st3 => (match x, l, h with
  | .int i, .int l, .int h => Q (.bl (decide (l ≤ i ∧ i < h) != neg)) st3
  | _, _, _ => False) := by
  simp only [inRgF, ev_bind]
  congr; funext x st1; congr; funext l st2; congr; funext h st3
  split
  · rfl
  · rename_i hh
    cases x <;> cases l <;> cases h <;> first | rfl | exact absurd rfl (hh _ _ _ rfl rfl)
theorem evs_asgT (a : EF) (n : Nat) (g : TgsF) : EvS (sAsg a (gTupF n g) p st) E = EvX (fun e st => E.xc e p st) (a p st) fun d st1 => (match gTupF n g d p st1 with | some p1 => E.nx p1 st1 | none => False) := evs_asg a _
theorem tg_2 {i j : Nat} {a b : D} {p : Rho} {st : Store} : gTupF 2 (gConsF (gNameF i) (gConsF (gNameF j) gNilF)) (.tup [a, b]) p st = some ((p.set i (some a)).set j (some b)) := rfl
theorem tg_3 {i j k : Nat} {a b c : D} {p : Rho} {st : Store} : gTupF 3 (gConsF (gNameF i) (gConsF (gNameF j) (gConsF (gNameF k) gNilF))) (.tup [a, b, c]) p st = some (((p.set i (some a)).set j (some b)).set k (some c)) := rfl
/-- a def that comes to its end, or raises -/
theorem EvX.get {α : Type} {Q : α → Store → Prop} {r : R α} (h : EvX Y r Q) : (∃ a st, r = .ok a st ∧ Q a st) ∨ ∃ e st, r = .exc e st ∧ Y e st := by
  cases r with
  | ok a st => exact .inl ⟨a, st, rfl, h⟩
  | exc e st => exact .inr ⟨e, st, rfl, h⟩
  | bad => exact h.elim
end
end Mi
set_option Elab.async false
set_option linter.all false
set_option maxRecDepth 100000
set_option maxHeartbeats 4000000
namespace Mi
open PySem PySem.Spec L2
open PyProof.Rows hiding St
/-! the law's defs -/
def top (i : Nat) : Stmt := PySem.Challenge.pw_breakins_k01_errors.main.body.getD i (.Pass ⟨0, 0, 0, 0⟩)
abbrev s__law_deck : Stmt := top 16
theorem sc__law_deck : FnScope ["_law_script", "_law_cell", "_law_cells", "_law_mixed"] ["_law_script"] (defScope s__law_deck) := ⟨rfl, rfl, rfl, by decide +kernel, rfl, by decide +kernel, by decide +kernel⟩
abbrev s__law_draw : Stmt := top 17
theorem sc__law_draw : FnScope ["_law_deck_here", "_law_ways", "_law_mixed", "_law_turn", "_law_cell"] ["_law_deck_here", "_law_ways"] (defScope s__law_draw) := ⟨rfl, rfl, rfl, by decide +kernel, rfl, by decide +kernel, by decide +kernel⟩
abbrev s__law_made : Stmt := top 19
theorem sc__law_made : FnScope ["_law_word", "_law_it", "_law_by_name", "_law_e"] ["_law_word", "_law_it", "_law_by_name"] (defScope s__law_made) := ⟨rfl, rfl, rfl, by decide +kernel, rfl, by decide +kernel, by decide +kernel⟩
abbrev s__law_made_further : Stmt := top 20
theorem sc__law_made_further : FnScope ["_law_word", "_law_it", "_law_by_name", "_law_e"] ["_law_word", "_law_it", "_law_by_name"] (defScope s__law_made_further) := ⟨rfl, rfl, rfl, by decide +kernel, rfl, by decide +kernel, by decide +kernel⟩
abbrev s__law_kinds : Stmt := top 21
theorem sc__law_kinds : FnScope ["_law_e", "_law_found"] ["_law_e"] (defScope s__law_kinds) := ⟨rfl, rfl, rfl, by decide +kernel, rfl, by decide +kernel, by decide +kernel⟩
abbrev s__law_bases : Stmt := top 22
theorem sc__law_bases : FnScope ["_law_e"] ["_law_e"] (defScope s__law_bases) := ⟨rfl, rfl, rfl, by decide +kernel, rfl, by decide +kernel, by decide +kernel⟩
abbrev s__law_value : Stmt := top 23
theorem sc__law_value : FnScope ["_law_deck_here", "_law_deep", "_law_way", "_law_some", "_law_k"] ["_law_deck_here", "_law_deep"] (defScope s__law_value) := ⟨rfl, rfl, rfl, by decide +kernel, rfl, by decide +kernel, by decide +kernel⟩
abbrev s_law : Stmt := top 24
theorem sc_law : FnScope ["_law_script", "_law_deck_here", "_law_words", "_law_turn", "_law_at", "_law_word", "_law_it", "_law_by_name", "_law_kept", "_law_due", "_law_e", "_law_told", "_law_k"] ["_law_script"] (defScope s_law) := ⟨rfl, rfl, rfl, by decide +kernel, rfl, by decide +kernel, by decide +kernel⟩
structure TB (K : PySem.W.Frag) (mg : Str → Option Value) where
  a__law_deck : Addr
  d__law_deck : FuncData
  F__law_deck : FF K mg "_law_deck" s__law_deck a__law_deck d__law_deck
  a__law_draw : Addr
  d__law_draw : FuncData
  F__law_draw : FF K mg "_law_draw" s__law_draw a__law_draw d__law_draw
  a__law_made : Addr
  d__law_made : FuncData
  F__law_made : FF K mg "_law_made" s__law_made a__law_made d__law_made
  a__law_made_further : Addr
  d__law_made_further : FuncData
  F__law_made_further : FF K mg "_law_made_further" s__law_made_further a__law_made_further d__law_made_further
  a__law_kinds : Addr
  d__law_kinds : FuncData
  F__law_kinds : FF K mg "_law_kinds" s__law_kinds a__law_kinds d__law_kinds
  a__law_bases : Addr
  d__law_bases : FuncData
  F__law_bases : FF K mg "_law_bases" s__law_bases a__law_bases d__law_bases
  a__law_value : Addr
  d__law_value : FuncData
  F__law_value : FF K mg "_law_value" s__law_value a__law_value d__law_value
  a_law : Addr
  d_law : FuncData
  F_law : FF K mg "law" s_law a_law d_law
  b_BreakError : Addr
  B_BreakError : BaseC K mg "BreakError" b_BreakError
  c_InvalidProgram : Addr
  j_InvalidProgram : Addr
  J_InvalidProgram : FuncData
  X_InvalidProgram : XC K mg "InvalidProgram" (inClass (top 2) 0) c_InvalidProgram j_InvalidProgram J_InvalidProgram
  h_InvalidProgram : PySem.W.findIn K (.ref c_InvalidProgram) "part" = some none
  c_TooMany : Addr
  j_TooMany : Addr
  J_TooMany : FuncData
  X_TooMany : XC K mg "TooMany" (inClass (top 3) 0) c_TooMany j_TooMany J_TooMany
  h_TooMany : PySem.W.findIn K (.ref c_TooMany) "what" = some none
  c_InvalidText : Addr
  j_InvalidText : Addr
  J_InvalidText : FuncData
  X_InvalidText : XC K mg "InvalidText" (inClass (top 4) 0) c_InvalidText j_InvalidText J_InvalidText
  h_InvalidText : PySem.W.findIn K (.ref c_InvalidText) "line" = some none
  c_InvalidLine : Addr
  j_InvalidLine : Addr
  J_InvalidLine : FuncData
  X_InvalidLine : XC K mg "InvalidLine" (inClass (top 5) 0) c_InvalidLine j_InvalidLine J_InvalidLine
  h_InvalidLine : PySem.W.findIn K (.ref c_InvalidLine) "line" = some none
  c_NoStory : Addr
  j_NoStory : Addr
  J_NoStory : FuncData
  X_NoStory : XC K mg "NoStory" (inClass (top 6) 0) c_NoStory j_NoStory J_NoStory
  h_NoStory : PySem.W.findIn K (.ref c_NoStory) "path" = some none
  c_TooGreat : Addr
  j_TooGreat : Addr
  J_TooGreat : FuncData
  X_TooGreat : XC K mg "TooGreat" (inClass (top 7) 0) c_TooGreat j_TooGreat J_TooGreat
  h_TooGreat : PySem.W.findIn K (.ref c_TooGreat) "limit" = some none
  c_NotComparable : Addr
  j_NotComparable : Addr
  J_NotComparable : FuncData
  X_NotComparable : XC K mg "NotComparable" (inClass (top 8) 0) c_NotComparable j_NotComparable J_NotComparable
  h_NotComparable : PySem.W.findIn K (.ref c_NotComparable) "name" = some none
  c_NotLetIn : Addr
  j_NotLetIn : Addr
  J_NotLetIn : FuncData
  X_NotLetIn : XC K mg "NotLetIn" (inClass (top 9) 0) c_NotLetIn j_NotLetIn J_NotLetIn
  h_NotLetIn : PySem.W.findIn K (.ref c_NotLetIn) "request" = some none
  c_NotWaiting : Addr
  j_NotWaiting : Addr
  J_NotWaiting : FuncData
  X_NotWaiting : XC K mg "NotWaiting" (inClass (top 10) 0) c_NotWaiting j_NotWaiting J_NotWaiting
  h_NotWaiting : PySem.W.findIn K (.ref c_NotWaiting) "number" = some none
  c_Broken : Addr
  j_Broken : Addr
  J_Broken : FuncData
  X_Broken : XC K mg "Broken" (inClass (top 13) 0) c_Broken j_Broken J_Broken
  h_Broken : PySem.W.findIn K (.ref c_Broken) "path" = some none
  c_UnknownOpen : Addr
  j_UnknownOpen : Addr
  J_UnknownOpen : FuncData
  X_UnknownOpen : XK K mg "UnknownOpen" (inClass (top 14) 0) c_UnknownOpen j_UnknownOpen J_UnknownOpen
  v_UnknownOpen : PySem.W.findCls K (.type "KeyError") (.type "type") "__init__" = some (.val (.builtin "KeyError.__init__"))
  h_UnknownOpen : PySem.W.findIn K (.ref c_UnknownOpen) "place" = some none
  c_Empty : Addr
  j_Empty : Addr
  J_Empty : FuncData
  X_Empty : XC K mg "Empty" (inClass (top 11) 0) c_Empty j_Empty J_Empty
  c_Busy : Addr
  j_Busy : Addr
  J_Busy : FuncData
  X_Busy : XC K mg "Busy" (inClass (top 12) 0) c_Busy j_Busy J_Busy
  e_InvalidText : Addr
  D_InvalidText : CD K mg "InvalidText" e_InvalidText
  e_TooMany : Addr
  D_TooMany : CD K mg "TooMany" e_TooMany
  e_InvalidProgram : Addr
  D_InvalidProgram : CD K mg "InvalidProgram" e_InvalidProgram
  e_TooGreat : Addr
  D_TooGreat : CD K mg "TooGreat" e_TooGreat
  e_NoStory : Addr
  D_NoStory : CD K mg "NoStory" e_NoStory
  e_InvalidLine : Addr
  D_InvalidLine : CD K mg "InvalidLine" e_InvalidLine
  e_NotWaiting : Addr
  D_NotWaiting : CD K mg "NotWaiting" e_NotWaiting
  e_NotLetIn : Addr
  D_NotLetIn : CD K mg "NotLetIn" e_NotLetIn
  e_NotComparable : Addr
  D_NotComparable : CD K mg "NotComparable" e_NotComparable
  e_Busy : Addr
  D_Busy : CD K mg "Busy" e_Busy
  e_Empty : Addr
  D_Empty : CD K mg "Empty" e_Empty
  e_UnknownOpen : Addr
  D_UnknownOpen : CD K mg "UnknownOpen" e_UnknownOpen
  e_Broken : Addr
  D_Broken : CD K mg "Broken" e_Broken
  e_BreakError : Addr
  D_BreakError : CD K mg "BreakError" e_BreakError
  s_InvalidProgram_InvalidText : PySem.W.subIn K (.ref c_InvalidProgram) (.ref e_InvalidText) = some false
  r_InvalidProgram_InvalidText : (Value.ref c_InvalidProgram == Value.ref e_InvalidText) = false
  s_InvalidProgram_TooMany : PySem.W.subIn K (.ref c_InvalidProgram) (.ref e_TooMany) = some false
  r_InvalidProgram_TooMany : (Value.ref c_InvalidProgram == Value.ref e_TooMany) = false
  s_InvalidProgram_InvalidProgram : PySem.W.subIn K (.ref c_InvalidProgram) (.ref e_InvalidProgram) = some true
  s_InvalidProgram_TooGreat : PySem.W.subIn K (.ref c_InvalidProgram) (.ref e_TooGreat) = some false
  r_InvalidProgram_TooGreat : (Value.ref c_InvalidProgram == Value.ref e_TooGreat) = false
  s_InvalidProgram_NoStory : PySem.W.subIn K (.ref c_InvalidProgram) (.ref e_NoStory) = some false
  r_InvalidProgram_NoStory : (Value.ref c_InvalidProgram == Value.ref e_NoStory) = false
  s_InvalidProgram_InvalidLine : PySem.W.subIn K (.ref c_InvalidProgram) (.ref e_InvalidLine) = some false
  r_InvalidProgram_InvalidLine : (Value.ref c_InvalidProgram == Value.ref e_InvalidLine) = false
  s_InvalidProgram_NotWaiting : PySem.W.subIn K (.ref c_InvalidProgram) (.ref e_NotWaiting) = some false
  r_InvalidProgram_NotWaiting : (Value.ref c_InvalidProgram == Value.ref e_NotWaiting) = false
  s_InvalidProgram_NotLetIn : PySem.W.subIn K (.ref c_InvalidProgram) (.ref e_NotLetIn) = some false
  r_InvalidProgram_NotLetIn : (Value.ref c_InvalidProgram == Value.ref e_NotLetIn) = false
  s_InvalidProgram_NotComparable : PySem.W.subIn K (.ref c_InvalidProgram) (.ref e_NotComparable) = some false
  r_InvalidProgram_NotComparable : (Value.ref c_InvalidProgram == Value.ref e_NotComparable) = false
  s_InvalidProgram_Busy : PySem.W.subIn K (.ref c_InvalidProgram) (.ref e_Busy) = some false
  r_InvalidProgram_Busy : (Value.ref c_InvalidProgram == Value.ref e_Busy) = false
  s_InvalidProgram_Empty : PySem.W.subIn K (.ref c_InvalidProgram) (.ref e_Empty) = some false
  r_InvalidProgram_Empty : (Value.ref c_InvalidProgram == Value.ref e_Empty) = false
  s_InvalidProgram_UnknownOpen : PySem.W.subIn K (.ref c_InvalidProgram) (.ref e_UnknownOpen) = some false
  r_InvalidProgram_UnknownOpen : (Value.ref c_InvalidProgram == Value.ref e_UnknownOpen) = false
  s_InvalidProgram_Broken : PySem.W.subIn K (.ref c_InvalidProgram) (.ref e_Broken) = some false
  r_InvalidProgram_Broken : (Value.ref c_InvalidProgram == Value.ref e_Broken) = false
  s_InvalidProgram_BreakError : PySem.W.subIn K (.ref c_InvalidProgram) (.ref e_BreakError) = some true
  s_InvalidProgram_KeyError : PySem.W.subIn K (.ref c_InvalidProgram) (.type "KeyError") = some false
  s_InvalidProgram_ValueError : PySem.W.subIn K (.ref c_InvalidProgram) (.type "ValueError") = some true
  s_TooMany_InvalidText : PySem.W.subIn K (.ref c_TooMany) (.ref e_InvalidText) = some false
  r_TooMany_InvalidText : (Value.ref c_TooMany == Value.ref e_InvalidText) = false
  s_TooMany_TooMany : PySem.W.subIn K (.ref c_TooMany) (.ref e_TooMany) = some true
  s_TooMany_InvalidProgram : PySem.W.subIn K (.ref c_TooMany) (.ref e_InvalidProgram) = some false
  r_TooMany_InvalidProgram : (Value.ref c_TooMany == Value.ref e_InvalidProgram) = false
  s_TooMany_TooGreat : PySem.W.subIn K (.ref c_TooMany) (.ref e_TooGreat) = some false
  r_TooMany_TooGreat : (Value.ref c_TooMany == Value.ref e_TooGreat) = false
  s_TooMany_NoStory : PySem.W.subIn K (.ref c_TooMany) (.ref e_NoStory) = some false
  r_TooMany_NoStory : (Value.ref c_TooMany == Value.ref e_NoStory) = false
  s_TooMany_InvalidLine : PySem.W.subIn K (.ref c_TooMany) (.ref e_InvalidLine) = some false
  r_TooMany_InvalidLine : (Value.ref c_TooMany == Value.ref e_InvalidLine) = false
  s_TooMany_NotWaiting : PySem.W.subIn K (.ref c_TooMany) (.ref e_NotWaiting) = some false
  r_TooMany_NotWaiting : (Value.ref c_TooMany == Value.ref e_NotWaiting) = false
  s_TooMany_NotLetIn : PySem.W.subIn K (.ref c_TooMany) (.ref e_NotLetIn) = some false
  r_TooMany_NotLetIn : (Value.ref c_TooMany == Value.ref e_NotLetIn) = false
  s_TooMany_NotComparable : PySem.W.subIn K (.ref c_TooMany) (.ref e_NotComparable) = some false
  r_TooMany_NotComparable : (Value.ref c_TooMany == Value.ref e_NotComparable) = false
  s_TooMany_Busy : PySem.W.subIn K (.ref c_TooMany) (.ref e_Busy) = some false
  r_TooMany_Busy : (Value.ref c_TooMany == Value.ref e_Busy) = false
  s_TooMany_Empty : PySem.W.subIn K (.ref c_TooMany) (.ref e_Empty) = some false
  r_TooMany_Empty : (Value.ref c_TooMany == Value.ref e_Empty) = false
  s_TooMany_UnknownOpen : PySem.W.subIn K (.ref c_TooMany) (.ref e_UnknownOpen) = some false
  r_TooMany_UnknownOpen : (Value.ref c_TooMany == Value.ref e_UnknownOpen) = false
  s_TooMany_Broken : PySem.W.subIn K (.ref c_TooMany) (.ref e_Broken) = some false
  r_TooMany_Broken : (Value.ref c_TooMany == Value.ref e_Broken) = false
  s_TooMany_BreakError : PySem.W.subIn K (.ref c_TooMany) (.ref e_BreakError) = some true
  s_TooMany_KeyError : PySem.W.subIn K (.ref c_TooMany) (.type "KeyError") = some false
  s_TooMany_ValueError : PySem.W.subIn K (.ref c_TooMany) (.type "ValueError") = some true
  s_InvalidText_InvalidText : PySem.W.subIn K (.ref c_InvalidText) (.ref e_InvalidText) = some true
  s_InvalidText_TooMany : PySem.W.subIn K (.ref c_InvalidText) (.ref e_TooMany) = some false
  r_InvalidText_TooMany : (Value.ref c_InvalidText == Value.ref e_TooMany) = false
  s_InvalidText_InvalidProgram : PySem.W.subIn K (.ref c_InvalidText) (.ref e_InvalidProgram) = some false
  r_InvalidText_InvalidProgram : (Value.ref c_InvalidText == Value.ref e_InvalidProgram) = false
  s_InvalidText_TooGreat : PySem.W.subIn K (.ref c_InvalidText) (.ref e_TooGreat) = some false
  r_InvalidText_TooGreat : (Value.ref c_InvalidText == Value.ref e_TooGreat) = false
  s_InvalidText_NoStory : PySem.W.subIn K (.ref c_InvalidText) (.ref e_NoStory) = some false
  r_InvalidText_NoStory : (Value.ref c_InvalidText == Value.ref e_NoStory) = false
  s_InvalidText_InvalidLine : PySem.W.subIn K (.ref c_InvalidText) (.ref e_InvalidLine) = some false
  r_InvalidText_InvalidLine : (Value.ref c_InvalidText == Value.ref e_InvalidLine) = false
  s_InvalidText_NotWaiting : PySem.W.subIn K (.ref c_InvalidText) (.ref e_NotWaiting) = some false
  r_InvalidText_NotWaiting : (Value.ref c_InvalidText == Value.ref e_NotWaiting) = false
  s_InvalidText_NotLetIn : PySem.W.subIn K (.ref c_InvalidText) (.ref e_NotLetIn) = some false
  r_InvalidText_NotLetIn : (Value.ref c_InvalidText == Value.ref e_NotLetIn) = false
  s_InvalidText_NotComparable : PySem.W.subIn K (.ref c_InvalidText) (.ref e_NotComparable) = some false
  r_InvalidText_NotComparable : (Value.ref c_InvalidText == Value.ref e_NotComparable) = false
  s_InvalidText_Busy : PySem.W.subIn K (.ref c_InvalidText) (.ref e_Busy) = some false
  r_InvalidText_Busy : (Value.ref c_InvalidText == Value.ref e_Busy) = false
  s_InvalidText_Empty : PySem.W.subIn K (.ref c_InvalidText) (.ref e_Empty) = some false
  r_InvalidText_Empty : (Value.ref c_InvalidText == Value.ref e_Empty) = false
  s_InvalidText_UnknownOpen : PySem.W.subIn K (.ref c_InvalidText) (.ref e_UnknownOpen) = some false
  r_InvalidText_UnknownOpen : (Value.ref c_InvalidText == Value.ref e_UnknownOpen) = false
  s_InvalidText_Broken : PySem.W.subIn K (.ref c_InvalidText) (.ref e_Broken) = some false
  r_InvalidText_Broken : (Value.ref c_InvalidText == Value.ref e_Broken) = false
  s_InvalidText_BreakError : PySem.W.subIn K (.ref c_InvalidText) (.ref e_BreakError) = some true
  s_InvalidText_KeyError : PySem.W.subIn K (.ref c_InvalidText) (.type "KeyError") = some false
  s_InvalidText_ValueError : PySem.W.subIn K (.ref c_InvalidText) (.type "ValueError") = some true
  s_InvalidLine_InvalidText : PySem.W.subIn K (.ref c_InvalidLine) (.ref e_InvalidText) = some false
  r_InvalidLine_InvalidText : (Value.ref c_InvalidLine == Value.ref e_InvalidText) = false
  s_InvalidLine_TooMany : PySem.W.subIn K (.ref c_InvalidLine) (.ref e_TooMany) = some false
  r_InvalidLine_TooMany : (Value.ref c_InvalidLine == Value.ref e_TooMany) = false
  s_InvalidLine_InvalidProgram : PySem.W.subIn K (.ref c_InvalidLine) (.ref e_InvalidProgram) = some false
  r_InvalidLine_InvalidProgram : (Value.ref c_InvalidLine == Value.ref e_InvalidProgram) = false
  s_InvalidLine_TooGreat : PySem.W.subIn K (.ref c_InvalidLine) (.ref e_TooGreat) = some false
  r_InvalidLine_TooGreat : (Value.ref c_InvalidLine == Value.ref e_TooGreat) = false
  s_InvalidLine_NoStory : PySem.W.subIn K (.ref c_InvalidLine) (.ref e_NoStory) = some false
  r_InvalidLine_NoStory : (Value.ref c_InvalidLine == Value.ref e_NoStory) = false
  s_InvalidLine_InvalidLine : PySem.W.subIn K (.ref c_InvalidLine) (.ref e_InvalidLine) = some true
  s_InvalidLine_NotWaiting : PySem.W.subIn K (.ref c_InvalidLine) (.ref e_NotWaiting) = some false
  r_InvalidLine_NotWaiting : (Value.ref c_InvalidLine == Value.ref e_NotWaiting) = false
  s_InvalidLine_NotLetIn : PySem.W.subIn K (.ref c_InvalidLine) (.ref e_NotLetIn) = some false
  r_InvalidLine_NotLetIn : (Value.ref c_InvalidLine == Value.ref e_NotLetIn) = false
  s_InvalidLine_NotComparable : PySem.W.subIn K (.ref c_InvalidLine) (.ref e_NotComparable) = some false
  r_InvalidLine_NotComparable : (Value.ref c_InvalidLine == Value.ref e_NotComparable) = false
  s_InvalidLine_Busy : PySem.W.subIn K (.ref c_InvalidLine) (.ref e_Busy) = some false
  r_InvalidLine_Busy : (Value.ref c_InvalidLine == Value.ref e_Busy) = false
  s_InvalidLine_Empty : PySem.W.subIn K (.ref c_InvalidLine) (.ref e_Empty) = some false
  r_InvalidLine_Empty : (Value.ref c_InvalidLine == Value.ref e_Empty) = false
  s_InvalidLine_UnknownOpen : PySem.W.subIn K (.ref c_InvalidLine) (.ref e_UnknownOpen) = some false
  r_InvalidLine_UnknownOpen : (Value.ref c_InvalidLine == Value.ref e_UnknownOpen) = false
  s_InvalidLine_Broken : PySem.W.subIn K (.ref c_InvalidLine) (.ref e_Broken) = some false
  r_InvalidLine_Broken : (Value.ref c_InvalidLine == Value.ref e_Broken) = false
  s_InvalidLine_BreakError : PySem.W.subIn K (.ref c_InvalidLine) (.ref e_BreakError) = some true
  s_InvalidLine_KeyError : PySem.W.subIn K (.ref c_InvalidLine) (.type "KeyError") = some false
  s_InvalidLine_ValueError : PySem.W.subIn K (.ref c_InvalidLine) (.type "ValueError") = some true
  s_NoStory_InvalidText : PySem.W.subIn K (.ref c_NoStory) (.ref e_InvalidText) = some false
  r_NoStory_InvalidText : (Value.ref c_NoStory == Value.ref e_InvalidText) = false
  s_NoStory_TooMany : PySem.W.subIn K (.ref c_NoStory) (.ref e_TooMany) = some false
  r_NoStory_TooMany : (Value.ref c_NoStory == Value.ref e_TooMany) = false
  s_NoStory_InvalidProgram : PySem.W.subIn K (.ref c_NoStory) (.ref e_InvalidProgram) = some false
  r_NoStory_InvalidProgram : (Value.ref c_NoStory == Value.ref e_InvalidProgram) = false
  s_NoStory_TooGreat : PySem.W.subIn K (.ref c_NoStory) (.ref e_TooGreat) = some false
  r_NoStory_TooGreat : (Value.ref c_NoStory == Value.ref e_TooGreat) = false
  s_NoStory_NoStory : PySem.W.subIn K (.ref c_NoStory) (.ref e_NoStory) = some true
  s_NoStory_InvalidLine : PySem.W.subIn K (.ref c_NoStory) (.ref e_InvalidLine) = some false
  r_NoStory_InvalidLine : (Value.ref c_NoStory == Value.ref e_InvalidLine) = false
  s_NoStory_NotWaiting : PySem.W.subIn K (.ref c_NoStory) (.ref e_NotWaiting) = some false
  r_NoStory_NotWaiting : (Value.ref c_NoStory == Value.ref e_NotWaiting) = false
  s_NoStory_NotLetIn : PySem.W.subIn K (.ref c_NoStory) (.ref e_NotLetIn) = some false
  r_NoStory_NotLetIn : (Value.ref c_NoStory == Value.ref e_NotLetIn) = false
  s_NoStory_NotComparable : PySem.W.subIn K (.ref c_NoStory) (.ref e_NotComparable) = some false
  r_NoStory_NotComparable : (Value.ref c_NoStory == Value.ref e_NotComparable) = false
  s_NoStory_Busy : PySem.W.subIn K (.ref c_NoStory) (.ref e_Busy) = some false
  r_NoStory_Busy : (Value.ref c_NoStory == Value.ref e_Busy) = false
  s_NoStory_Empty : PySem.W.subIn K (.ref c_NoStory) (.ref e_Empty) = some false
  r_NoStory_Empty : (Value.ref c_NoStory == Value.ref e_Empty) = false
  s_NoStory_UnknownOpen : PySem.W.subIn K (.ref c_NoStory) (.ref e_UnknownOpen) = some false
  r_NoStory_UnknownOpen : (Value.ref c_NoStory == Value.ref e_UnknownOpen) = false
  s_NoStory_Broken : PySem.W.subIn K (.ref c_NoStory) (.ref e_Broken) = some false
  r_NoStory_Broken : (Value.ref c_NoStory == Value.ref e_Broken) = false
  s_NoStory_BreakError : PySem.W.subIn K (.ref c_NoStory) (.ref e_BreakError) = some true
  s_NoStory_KeyError : PySem.W.subIn K (.ref c_NoStory) (.type "KeyError") = some false
  s_NoStory_ValueError : PySem.W.subIn K (.ref c_NoStory) (.type "ValueError") = some true
  s_TooGreat_InvalidText : PySem.W.subIn K (.ref c_TooGreat) (.ref e_InvalidText) = some false
  r_TooGreat_InvalidText : (Value.ref c_TooGreat == Value.ref e_InvalidText) = false
  s_TooGreat_TooMany : PySem.W.subIn K (.ref c_TooGreat) (.ref e_TooMany) = some false
  r_TooGreat_TooMany : (Value.ref c_TooGreat == Value.ref e_TooMany) = false
  s_TooGreat_InvalidProgram : PySem.W.subIn K (.ref c_TooGreat) (.ref e_InvalidProgram) = some false
  r_TooGreat_InvalidProgram : (Value.ref c_TooGreat == Value.ref e_InvalidProgram) = false
  s_TooGreat_TooGreat : PySem.W.subIn K (.ref c_TooGreat) (.ref e_TooGreat) = some true
  s_TooGreat_NoStory : PySem.W.subIn K (.ref c_TooGreat) (.ref e_NoStory) = some false
  r_TooGreat_NoStory : (Value.ref c_TooGreat == Value.ref e_NoStory) = false
  s_TooGreat_InvalidLine : PySem.W.subIn K (.ref c_TooGreat) (.ref e_InvalidLine) = some false
  r_TooGreat_InvalidLine : (Value.ref c_TooGreat == Value.ref e_InvalidLine) = false
  s_TooGreat_NotWaiting : PySem.W.subIn K (.ref c_TooGreat) (.ref e_NotWaiting) = some false
  r_TooGreat_NotWaiting : (Value.ref c_TooGreat == Value.ref e_NotWaiting) = false
  s_TooGreat_NotLetIn : PySem.W.subIn K (.ref c_TooGreat) (.ref e_NotLetIn) = some false
  r_TooGreat_NotLetIn : (Value.ref c_TooGreat == Value.ref e_NotLetIn) = false
  s_TooGreat_NotComparable : PySem.W.subIn K (.ref c_TooGreat) (.ref e_NotComparable) = some false
  r_TooGreat_NotComparable : (Value.ref c_TooGreat == Value.ref e_NotComparable) = false
  s_TooGreat_Busy : PySem.W.subIn K (.ref c_TooGreat) (.ref e_Busy) = some false
  r_TooGreat_Busy : (Value.ref c_TooGreat == Value.ref e_Busy) = false
  s_TooGreat_Empty : PySem.W.subIn K (.ref c_TooGreat) (.ref e_Empty) = some false
  r_TooGreat_Empty : (Value.ref c_TooGreat == Value.ref e_Empty) = false
  s_TooGreat_UnknownOpen : PySem.W.subIn K (.ref c_TooGreat) (.ref e_UnknownOpen) = some false
  r_TooGreat_UnknownOpen : (Value.ref c_TooGreat == Value.ref e_UnknownOpen) = false
  s_TooGreat_Broken : PySem.W.subIn K (.ref c_TooGreat) (.ref e_Broken) = some false
  r_TooGreat_Broken : (Value.ref c_TooGreat == Value.ref e_Broken) = false
  s_TooGreat_BreakError : PySem.W.subIn K (.ref c_TooGreat) (.ref e_BreakError) = some true
  s_TooGreat_KeyError : PySem.W.subIn K (.ref c_TooGreat) (.type "KeyError") = some false
  s_TooGreat_ValueError : PySem.W.subIn K (.ref c_TooGreat) (.type "ValueError") = some true
  s_NotComparable_InvalidText : PySem.W.subIn K (.ref c_NotComparable) (.ref e_InvalidText) = some false
  r_NotComparable_InvalidText : (Value.ref c_NotComparable == Value.ref e_InvalidText) = false
  s_NotComparable_TooMany : PySem.W.subIn K (.ref c_NotComparable) (.ref e_TooMany) = some false
  r_NotComparable_TooMany : (Value.ref c_NotComparable == Value.ref e_TooMany) = false
  s_NotComparable_InvalidProgram : PySem.W.subIn K (.ref c_NotComparable) (.ref e_InvalidProgram) = some false
  r_NotComparable_InvalidProgram : (Value.ref c_NotComparable == Value.ref e_InvalidProgram) = false
  s_NotComparable_TooGreat : PySem.W.subIn K (.ref c_NotComparable) (.ref e_TooGreat) = some false
  r_NotComparable_TooGreat : (Value.ref c_NotComparable == Value.ref e_TooGreat) = false
  s_NotComparable_NoStory : PySem.W.subIn K (.ref c_NotComparable) (.ref e_NoStory) = some false
  r_NotComparable_NoStory : (Value.ref c_NotComparable == Value.ref e_NoStory) = false
  s_NotComparable_InvalidLine : PySem.W.subIn K (.ref c_NotComparable) (.ref e_InvalidLine) = some false
  r_NotComparable_InvalidLine : (Value.ref c_NotComparable == Value.ref e_InvalidLine) = false
  s_NotComparable_NotWaiting : PySem.W.subIn K (.ref c_NotComparable) (.ref e_NotWaiting) = some false
  r_NotComparable_NotWaiting : (Value.ref c_NotComparable == Value.ref e_NotWaiting) = false
  s_NotComparable_NotLetIn : PySem.W.subIn K (.ref c_NotComparable) (.ref e_NotLetIn) = some false
  r_NotComparable_NotLetIn : (Value.ref c_NotComparable == Value.ref e_NotLetIn) = false
  s_NotComparable_NotComparable : PySem.W.subIn K (.ref c_NotComparable) (.ref e_NotComparable) = some true
  s_NotComparable_Busy : PySem.W.subIn K (.ref c_NotComparable) (.ref e_Busy) = some false
  r_NotComparable_Busy : (Value.ref c_NotComparable == Value.ref e_Busy) = false
  s_NotComparable_Empty : PySem.W.subIn K (.ref c_NotComparable) (.ref e_Empty) = some false
  r_NotComparable_Empty : (Value.ref c_NotComparable == Value.ref e_Empty) = false
  s_NotComparable_UnknownOpen : PySem.W.subIn K (.ref c_NotComparable) (.ref e_UnknownOpen) = some false
  r_NotComparable_UnknownOpen : (Value.ref c_NotComparable == Value.ref e_UnknownOpen) = false
  s_NotComparable_Broken : PySem.W.subIn K (.ref c_NotComparable) (.ref e_Broken) = some false
  r_NotComparable_Broken : (Value.ref c_NotComparable == Value.ref e_Broken) = false
  s_NotComparable_BreakError : PySem.W.subIn K (.ref c_NotComparable) (.ref e_BreakError) = some true
  s_NotComparable_KeyError : PySem.W.subIn K (.ref c_NotComparable) (.type "KeyError") = some false
  s_NotComparable_ValueError : PySem.W.subIn K (.ref c_NotComparable) (.type "ValueError") = some true
  s_NotLetIn_InvalidText : PySem.W.subIn K (.ref c_NotLetIn) (.ref e_InvalidText) = some false
  r_NotLetIn_InvalidText : (Value.ref c_NotLetIn == Value.ref e_InvalidText) = false
  s_NotLetIn_TooMany : PySem.W.subIn K (.ref c_NotLetIn) (.ref e_TooMany) = some false
  r_NotLetIn_TooMany : (Value.ref c_NotLetIn == Value.ref e_TooMany) = false
  s_NotLetIn_InvalidProgram : PySem.W.subIn K (.ref c_NotLetIn) (.ref e_InvalidProgram) = some false
  r_NotLetIn_InvalidProgram : (Value.ref c_NotLetIn == Value.ref e_InvalidProgram) = false
  s_NotLetIn_TooGreat : PySem.W.subIn K (.ref c_NotLetIn) (.ref e_TooGreat) = some false
  r_NotLetIn_TooGreat : (Value.ref c_NotLetIn == Value.ref e_TooGreat) = false
  s_NotLetIn_NoStory : PySem.W.subIn K (.ref c_NotLetIn) (.ref e_NoStory) = some false
  r_NotLetIn_NoStory : (Value.ref c_NotLetIn == Value.ref e_NoStory) = false
  s_NotLetIn_InvalidLine : PySem.W.subIn K (.ref c_NotLetIn) (.ref e_InvalidLine) = some false
  r_NotLetIn_InvalidLine : (Value.ref c_NotLetIn == Value.ref e_InvalidLine) = false
  s_NotLetIn_NotWaiting : PySem.W.subIn K (.ref c_NotLetIn) (.ref e_NotWaiting) = some false
  r_NotLetIn_NotWaiting : (Value.ref c_NotLetIn == Value.ref e_NotWaiting) = false
  s_NotLetIn_NotLetIn : PySem.W.subIn K (.ref c_NotLetIn) (.ref e_NotLetIn) = some true
  s_NotLetIn_NotComparable : PySem.W.subIn K (.ref c_NotLetIn) (.ref e_NotComparable) = some false
  r_NotLetIn_NotComparable : (Value.ref c_NotLetIn == Value.ref e_NotComparable) = false
  s_NotLetIn_Busy : PySem.W.subIn K (.ref c_NotLetIn) (.ref e_Busy) = some false
  r_NotLetIn_Busy : (Value.ref c_NotLetIn == Value.ref e_Busy) = false
  s_NotLetIn_Empty : PySem.W.subIn K (.ref c_NotLetIn) (.ref e_Empty) = some false
  r_NotLetIn_Empty : (Value.ref c_NotLetIn == Value.ref e_Empty) = false
  s_NotLetIn_UnknownOpen : PySem.W.subIn K (.ref c_NotLetIn) (.ref e_UnknownOpen) = some false
  r_NotLetIn_UnknownOpen : (Value.ref c_NotLetIn == Value.ref e_UnknownOpen) = false
  s_NotLetIn_Broken : PySem.W.subIn K (.ref c_NotLetIn) (.ref e_Broken) = some false
  r_NotLetIn_Broken : (Value.ref c_NotLetIn == Value.ref e_Broken) = false
  s_NotLetIn_BreakError : PySem.W.subIn K (.ref c_NotLetIn) (.ref e_BreakError) = some true
  s_NotLetIn_KeyError : PySem.W.subIn K (.ref c_NotLetIn) (.type "KeyError") = some false
  s_NotLetIn_ValueError : PySem.W.subIn K (.ref c_NotLetIn) (.type "ValueError") = some true
  s_NotWaiting_InvalidText : PySem.W.subIn K (.ref c_NotWaiting) (.ref e_InvalidText) = some false
  r_NotWaiting_InvalidText : (Value.ref c_NotWaiting == Value.ref e_InvalidText) = false
  s_NotWaiting_TooMany : PySem.W.subIn K (.ref c_NotWaiting) (.ref e_TooMany) = some false
  r_NotWaiting_TooMany : (Value.ref c_NotWaiting == Value.ref e_TooMany) = false
  s_NotWaiting_InvalidProgram : PySem.W.subIn K (.ref c_NotWaiting) (.ref e_InvalidProgram) = some false
  r_NotWaiting_InvalidProgram : (Value.ref c_NotWaiting == Value.ref e_InvalidProgram) = false
  s_NotWaiting_TooGreat : PySem.W.subIn K (.ref c_NotWaiting) (.ref e_TooGreat) = some false
  r_NotWaiting_TooGreat : (Value.ref c_NotWaiting == Value.ref e_TooGreat) = false
  s_NotWaiting_NoStory : PySem.W.subIn K (.ref c_NotWaiting) (.ref e_NoStory) = some false
  r_NotWaiting_NoStory : (Value.ref c_NotWaiting == Value.ref e_NoStory) = false
  s_NotWaiting_InvalidLine : PySem.W.subIn K (.ref c_NotWaiting) (.ref e_InvalidLine) = some false
  r_NotWaiting_InvalidLine : (Value.ref c_NotWaiting == Value.ref e_InvalidLine) = false
  s_NotWaiting_NotWaiting : PySem.W.subIn K (.ref c_NotWaiting) (.ref e_NotWaiting) = some true
  s_NotWaiting_NotLetIn : PySem.W.subIn K (.ref c_NotWaiting) (.ref e_NotLetIn) = some false
  r_NotWaiting_NotLetIn : (Value.ref c_NotWaiting == Value.ref e_NotLetIn) = false
  s_NotWaiting_NotComparable : PySem.W.subIn K (.ref c_NotWaiting) (.ref e_NotComparable) = some false
  r_NotWaiting_NotComparable : (Value.ref c_NotWaiting == Value.ref e_NotComparable) = false
  s_NotWaiting_Busy : PySem.W.subIn K (.ref c_NotWaiting) (.ref e_Busy) = some false
  r_NotWaiting_Busy : (Value.ref c_NotWaiting == Value.ref e_Busy) = false
  s_NotWaiting_Empty : PySem.W.subIn K (.ref c_NotWaiting) (.ref e_Empty) = some false
  r_NotWaiting_Empty : (Value.ref c_NotWaiting == Value.ref e_Empty) = false
  s_NotWaiting_UnknownOpen : PySem.W.subIn K (.ref c_NotWaiting) (.ref e_UnknownOpen) = some false
  r_NotWaiting_UnknownOpen : (Value.ref c_NotWaiting == Value.ref e_UnknownOpen) = false
  s_NotWaiting_Broken : PySem.W.subIn K (.ref c_NotWaiting) (.ref e_Broken) = some false
  r_NotWaiting_Broken : (Value.ref c_NotWaiting == Value.ref e_Broken) = false
  s_NotWaiting_BreakError : PySem.W.subIn K (.ref c_NotWaiting) (.ref e_BreakError) = some true
  s_NotWaiting_KeyError : PySem.W.subIn K (.ref c_NotWaiting) (.type "KeyError") = some false
  s_NotWaiting_ValueError : PySem.W.subIn K (.ref c_NotWaiting) (.type "ValueError") = some true
  s_Broken_InvalidText : PySem.W.subIn K (.ref c_Broken) (.ref e_InvalidText) = some false
  r_Broken_InvalidText : (Value.ref c_Broken == Value.ref e_InvalidText) = false
  s_Broken_TooMany : PySem.W.subIn K (.ref c_Broken) (.ref e_TooMany) = some false
  r_Broken_TooMany : (Value.ref c_Broken == Value.ref e_TooMany) = false
  s_Broken_InvalidProgram : PySem.W.subIn K (.ref c_Broken) (.ref e_InvalidProgram) = some false
  r_Broken_InvalidProgram : (Value.ref c_Broken == Value.ref e_InvalidProgram) = false
  s_Broken_TooGreat : PySem.W.subIn K (.ref c_Broken) (.ref e_TooGreat) = some false
  r_Broken_TooGreat : (Value.ref c_Broken == Value.ref e_TooGreat) = false
  s_Broken_NoStory : PySem.W.subIn K (.ref c_Broken) (.ref e_NoStory) = some false
  r_Broken_NoStory : (Value.ref c_Broken == Value.ref e_NoStory) = false
  s_Broken_InvalidLine : PySem.W.subIn K (.ref c_Broken) (.ref e_InvalidLine) = some false
  r_Broken_InvalidLine : (Value.ref c_Broken == Value.ref e_InvalidLine) = false
  s_Broken_NotWaiting : PySem.W.subIn K (.ref c_Broken) (.ref e_NotWaiting) = some false
  r_Broken_NotWaiting : (Value.ref c_Broken == Value.ref e_NotWaiting) = false
  s_Broken_NotLetIn : PySem.W.subIn K (.ref c_Broken) (.ref e_NotLetIn) = some false
  r_Broken_NotLetIn : (Value.ref c_Broken == Value.ref e_NotLetIn) = false
  s_Broken_NotComparable : PySem.W.subIn K (.ref c_Broken) (.ref e_NotComparable) = some false
  r_Broken_NotComparable : (Value.ref c_Broken == Value.ref e_NotComparable) = false
  s_Broken_Busy : PySem.W.subIn K (.ref c_Broken) (.ref e_Busy) = some false
  r_Broken_Busy : (Value.ref c_Broken == Value.ref e_Busy) = false
  s_Broken_Empty : PySem.W.subIn K (.ref c_Broken) (.ref e_Empty) = some false
  r_Broken_Empty : (Value.ref c_Broken == Value.ref e_Empty) = false
  s_Broken_UnknownOpen : PySem.W.subIn K (.ref c_Broken) (.ref e_UnknownOpen) = some false
  r_Broken_UnknownOpen : (Value.ref c_Broken == Value.ref e_UnknownOpen) = false
  s_Broken_Broken : PySem.W.subIn K (.ref c_Broken) (.ref e_Broken) = some true
  s_Broken_BreakError : PySem.W.subIn K (.ref c_Broken) (.ref e_BreakError) = some true
  s_Broken_KeyError : PySem.W.subIn K (.ref c_Broken) (.type "KeyError") = some false
  s_Broken_ValueError : PySem.W.subIn K (.ref c_Broken) (.type "ValueError") = some true
  s_UnknownOpen_InvalidText : PySem.W.subIn K (.ref c_UnknownOpen) (.ref e_InvalidText) = some false
  r_UnknownOpen_InvalidText : (Value.ref c_UnknownOpen == Value.ref e_InvalidText) = false
  s_UnknownOpen_TooMany : PySem.W.subIn K (.ref c_UnknownOpen) (.ref e_TooMany) = some false
  r_UnknownOpen_TooMany : (Value.ref c_UnknownOpen == Value.ref e_TooMany) = false
  s_UnknownOpen_InvalidProgram : PySem.W.subIn K (.ref c_UnknownOpen) (.ref e_InvalidProgram) = some false
  r_UnknownOpen_InvalidProgram : (Value.ref c_UnknownOpen == Value.ref e_InvalidProgram) = false
  s_UnknownOpen_TooGreat : PySem.W.subIn K (.ref c_UnknownOpen) (.ref e_TooGreat) = some false
  r_UnknownOpen_TooGreat : (Value.ref c_UnknownOpen == Value.ref e_TooGreat) = false
  s_UnknownOpen_NoStory : PySem.W.subIn K (.ref c_UnknownOpen) (.ref e_NoStory) = some false
  r_UnknownOpen_NoStory : (Value.ref c_UnknownOpen == Value.ref e_NoStory) = false
  s_UnknownOpen_InvalidLine : PySem.W.subIn K (.ref c_UnknownOpen) (.ref e_InvalidLine) = some false
  r_UnknownOpen_InvalidLine : (Value.ref c_UnknownOpen == Value.ref e_InvalidLine) = false
  s_UnknownOpen_NotWaiting : PySem.W.subIn K (.ref c_UnknownOpen) (.ref e_NotWaiting) = some false
  r_UnknownOpen_NotWaiting : (Value.ref c_UnknownOpen == Value.ref e_NotWaiting) = false
  s_UnknownOpen_NotLetIn : PySem.W.subIn K (.ref c_UnknownOpen) (.ref e_NotLetIn) = some false
  r_UnknownOpen_NotLetIn : (Value.ref c_UnknownOpen == Value.ref e_NotLetIn) = false
  s_UnknownOpen_NotComparable : PySem.W.subIn K (.ref c_UnknownOpen) (.ref e_NotComparable) = some false
  r_UnknownOpen_NotComparable : (Value.ref c_UnknownOpen == Value.ref e_NotComparable) = false
  s_UnknownOpen_Busy : PySem.W.subIn K (.ref c_UnknownOpen) (.ref e_Busy) = some false
  r_UnknownOpen_Busy : (Value.ref c_UnknownOpen == Value.ref e_Busy) = false
  s_UnknownOpen_Empty : PySem.W.subIn K (.ref c_UnknownOpen) (.ref e_Empty) = some false
  r_UnknownOpen_Empty : (Value.ref c_UnknownOpen == Value.ref e_Empty) = false
  s_UnknownOpen_UnknownOpen : PySem.W.subIn K (.ref c_UnknownOpen) (.ref e_UnknownOpen) = some true
  s_UnknownOpen_Broken : PySem.W.subIn K (.ref c_UnknownOpen) (.ref e_Broken) = some false
  r_UnknownOpen_Broken : (Value.ref c_UnknownOpen == Value.ref e_Broken) = false
  s_UnknownOpen_BreakError : PySem.W.subIn K (.ref c_UnknownOpen) (.ref e_BreakError) = some false
  r_UnknownOpen_BreakError : (Value.ref c_UnknownOpen == Value.ref e_BreakError) = false
  s_UnknownOpen_KeyError : PySem.W.subIn K (.ref c_UnknownOpen) (.type "KeyError") = some true
  s_UnknownOpen_ValueError : PySem.W.subIn K (.ref c_UnknownOpen) (.type "ValueError") = some false
  s_Empty_InvalidText : PySem.W.subIn K (.ref c_Empty) (.ref e_InvalidText) = some false
  r_Empty_InvalidText : (Value.ref c_Empty == Value.ref e_InvalidText) = false
  s_Empty_TooMany : PySem.W.subIn K (.ref c_Empty) (.ref e_TooMany) = some false
  r_Empty_TooMany : (Value.ref c_Empty == Value.ref e_TooMany) = false
  s_Empty_InvalidProgram : PySem.W.subIn K (.ref c_Empty) (.ref e_InvalidProgram) = some false
  r_Empty_InvalidProgram : (Value.ref c_Empty == Value.ref e_InvalidProgram) = false
  s_Empty_TooGreat : PySem.W.subIn K (.ref c_Empty) (.ref e_TooGreat) = some false
  r_Empty_TooGreat : (Value.ref c_Empty == Value.ref e_TooGreat) = false
  s_Empty_NoStory : PySem.W.subIn K (.ref c_Empty) (.ref e_NoStory) = some false
  r_Empty_NoStory : (Value.ref c_Empty == Value.ref e_NoStory) = false
  s_Empty_InvalidLine : PySem.W.subIn K (.ref c_Empty) (.ref e_InvalidLine) = some false
  r_Empty_InvalidLine : (Value.ref c_Empty == Value.ref e_InvalidLine) = false
  s_Empty_NotWaiting : PySem.W.subIn K (.ref c_Empty) (.ref e_NotWaiting) = some false
  r_Empty_NotWaiting : (Value.ref c_Empty == Value.ref e_NotWaiting) = false
  s_Empty_NotLetIn : PySem.W.subIn K (.ref c_Empty) (.ref e_NotLetIn) = some false
  r_Empty_NotLetIn : (Value.ref c_Empty == Value.ref e_NotLetIn) = false
  s_Empty_NotComparable : PySem.W.subIn K (.ref c_Empty) (.ref e_NotComparable) = some false
  r_Empty_NotComparable : (Value.ref c_Empty == Value.ref e_NotComparable) = false
  s_Empty_Busy : PySem.W.subIn K (.ref c_Empty) (.ref e_Busy) = some false
  r_Empty_Busy : (Value.ref c_Empty == Value.ref e_Busy) = false
  s_Empty_Empty : PySem.W.subIn K (.ref c_Empty) (.ref e_Empty) = some true
  s_Empty_UnknownOpen : PySem.W.subIn K (.ref c_Empty) (.ref e_UnknownOpen) = some false
  r_Empty_UnknownOpen : (Value.ref c_Empty == Value.ref e_UnknownOpen) = false
  s_Empty_Broken : PySem.W.subIn K (.ref c_Empty) (.ref e_Broken) = some false
  r_Empty_Broken : (Value.ref c_Empty == Value.ref e_Broken) = false
  s_Empty_BreakError : PySem.W.subIn K (.ref c_Empty) (.ref e_BreakError) = some true
  s_Empty_KeyError : PySem.W.subIn K (.ref c_Empty) (.type "KeyError") = some false
  s_Empty_ValueError : PySem.W.subIn K (.ref c_Empty) (.type "ValueError") = some true
  s_Busy_InvalidText : PySem.W.subIn K (.ref c_Busy) (.ref e_InvalidText) = some false
  r_Busy_InvalidText : (Value.ref c_Busy == Value.ref e_InvalidText) = false
  s_Busy_TooMany : PySem.W.subIn K (.ref c_Busy) (.ref e_TooMany) = some false
  r_Busy_TooMany : (Value.ref c_Busy == Value.ref e_TooMany) = false
  s_Busy_InvalidProgram : PySem.W.subIn K (.ref c_Busy) (.ref e_InvalidProgram) = some false
  r_Busy_InvalidProgram : (Value.ref c_Busy == Value.ref e_InvalidProgram) = false
  s_Busy_TooGreat : PySem.W.subIn K (.ref c_Busy) (.ref e_TooGreat) = some false
  r_Busy_TooGreat : (Value.ref c_Busy == Value.ref e_TooGreat) = false
  s_Busy_NoStory : PySem.W.subIn K (.ref c_Busy) (.ref e_NoStory) = some false
  r_Busy_NoStory : (Value.ref c_Busy == Value.ref e_NoStory) = false
  s_Busy_InvalidLine : PySem.W.subIn K (.ref c_Busy) (.ref e_InvalidLine) = some false
  r_Busy_InvalidLine : (Value.ref c_Busy == Value.ref e_InvalidLine) = false
  s_Busy_NotWaiting : PySem.W.subIn K (.ref c_Busy) (.ref e_NotWaiting) = some false
  r_Busy_NotWaiting : (Value.ref c_Busy == Value.ref e_NotWaiting) = false
  s_Busy_NotLetIn : PySem.W.subIn K (.ref c_Busy) (.ref e_NotLetIn) = some false
  r_Busy_NotLetIn : (Value.ref c_Busy == Value.ref e_NotLetIn) = false
  s_Busy_NotComparable : PySem.W.subIn K (.ref c_Busy) (.ref e_NotComparable) = some false
  r_Busy_NotComparable : (Value.ref c_Busy == Value.ref e_NotComparable) = false
  s_Busy_Busy : PySem.W.subIn K (.ref c_Busy) (.ref e_Busy) = some true
  s_Busy_Empty : PySem.W.subIn K (.ref c_Busy) (.ref e_Empty) = some false
  r_Busy_Empty : (Value.ref c_Busy == Value.ref e_Empty) = false
  s_Busy_UnknownOpen : PySem.W.subIn K (.ref c_Busy) (.ref e_UnknownOpen) = some false
  r_Busy_UnknownOpen : (Value.ref c_Busy == Value.ref e_UnknownOpen) = false
  s_Busy_Broken : PySem.W.subIn K (.ref c_Busy) (.ref e_Broken) = some false
  r_Busy_Broken : (Value.ref c_Busy == Value.ref e_Broken) = false
  s_Busy_BreakError : PySem.W.subIn K (.ref c_Busy) (.ref e_BreakError) = some true
  s_Busy_KeyError : PySem.W.subIn K (.ref c_Busy) (.type "KeyError") = some false
  s_Busy_ValueError : PySem.W.subIn K (.ref c_Busy) (.type "ValueError") = some true
  n_KeyError : mg "KeyError" = none
  n_ValueError : mg "ValueError" = none
  n_enumerate : mg "enumerate" = none
  n_isinstance : mg "isinstance" = none
  n_list : mg "list" = none
  n_range : mg "range" = none
  n_repr : mg "repr" = none
  n_tuple : mg "tuple" = none
section
variable {P : Program} {w : World} {K : PySem.W.Frag} {mg : Str → Option Value} {base : Heap}
abbrev i_InvalidProgram : Stmt := inClass (top 2) 0
theorem sci_InvalidProgram : FnScope ["self", "part"] ["self", "part"] (defScope i_InvalidProgram) := ⟨rfl, rfl, rfl, by decide +kernel, rfl, by decide +kernel, by decide +kernel⟩
theorem ev_InvalidProgram (E : TB K mg) : ErrV P w K mg base "InvalidProgram" "part" E.c_InvalidProgram := by
  refine ⟨E.X_InvalidProgram.m, E.X_InvalidProgram.n, OexC.em E.X_InvalidProgram.O, _, _, E.X_InvalidProgram.iC, E.X_InvalidProgram.iT, ?_, fun s a v => bt_of E.X_InvalidProgram.F (fun _ _ _ _ _ _ => rfl) s, fun s a v => bt_of E.X_InvalidProgram.F (fun _ _ _ _ _ _ => rfl) s⟩
  exact E.X_InvalidProgram.F.ok sci_InvalidProgram spInit_len fun cdv A outer s H vs Q X0 hr h => by
    obtain ⟨a, v, rfl, ea, q⟩ := h
    refine ⟨_, pss_cons (ps_expr (pe_binit (by rfl) E.B_BreakError.g E.B_BreakError.k E.B_BreakError.r E.B_BreakError.s E.B_BreakError.v (pa_cons (pv 0) (pa_cons pe_str pa_nil)))) (pss_one (ps_ost (pv 0) (pv 1))), ?_⟩
    exact ⟨_, rfl, a, _, _, rfl, by show 1 ≤ 1000; decide, E.X_InvalidProgram.O, ea, v, rfl, .ref a, rfl, a, _, rfl, E.X_InvalidProgram.O, E.h_InvalidProgram, .inl ⟨ea, q⟩⟩
abbrev i_TooMany : Stmt := inClass (top 3) 0
theorem sci_TooMany : FnScope ["self", "what"] ["self", "what"] (defScope i_TooMany) := ⟨rfl, rfl, rfl, by decide +kernel, rfl, by decide +kernel, by decide +kernel⟩
theorem ev_TooMany (E : TB K mg) : ErrV P w K mg base "TooMany" "what" E.c_TooMany := by
  refine ⟨E.X_TooMany.m, E.X_TooMany.n, OexC.em E.X_TooMany.O, _, _, E.X_TooMany.iC, E.X_TooMany.iT, ?_, fun s a v => bt_of E.X_TooMany.F (fun _ _ _ _ _ _ => rfl) s, fun s a v => bt_of E.X_TooMany.F (fun _ _ _ _ _ _ => rfl) s⟩
  exact E.X_TooMany.F.ok sci_TooMany spInit_len fun cdv A outer s H vs Q X0 hr h => by
    obtain ⟨a, v, rfl, ea, q⟩ := h
    refine ⟨_, pss_cons (ps_expr (pe_binit (by rfl) E.B_BreakError.g E.B_BreakError.k E.B_BreakError.r E.B_BreakError.s E.B_BreakError.v (pa_cons (pv 0) (pa_cons pe_str pa_nil)))) (pss_one (ps_ost (pv 0) (pv 1))), ?_⟩
    exact ⟨_, rfl, a, _, _, rfl, by show 1 ≤ 1000; decide, E.X_TooMany.O, ea, v, rfl, .ref a, rfl, a, _, rfl, E.X_TooMany.O, E.h_TooMany, .inl ⟨ea, q⟩⟩
abbrev i_InvalidText : Stmt := inClass (top 4) 0
theorem sci_InvalidText : FnScope ["self", "line"] ["self", "line"] (defScope i_InvalidText) := ⟨rfl, rfl, rfl, by decide +kernel, rfl, by decide +kernel, by decide +kernel⟩
theorem ev_InvalidText (E : TB K mg) : ErrV P w K mg base "InvalidText" "line" E.c_InvalidText := by
  refine ⟨E.X_InvalidText.m, E.X_InvalidText.n, OexC.em E.X_InvalidText.O, _, _, E.X_InvalidText.iC, E.X_InvalidText.iT, ?_, fun s a v => bt_of E.X_InvalidText.F (fun _ _ _ _ _ _ => rfl) s, fun s a v => bt_of E.X_InvalidText.F (fun _ _ _ _ _ _ => rfl) s⟩
  exact E.X_InvalidText.F.ok sci_InvalidText spInit_len fun cdv A outer s H vs Q X0 hr h => by
    obtain ⟨a, v, rfl, ea, q⟩ := h
    refine ⟨_, pss_cons (ps_expr (pe_binit (by rfl) E.B_BreakError.g E.B_BreakError.k E.B_BreakError.r E.B_BreakError.s E.B_BreakError.v (pa_cons (pv 0) (pa_cons pe_str pa_nil)))) (pss_one (ps_ost (pv 0) (pv 1))), ?_⟩
    exact ⟨_, rfl, a, _, _, rfl, by show 1 ≤ 1000; decide, E.X_InvalidText.O, ea, v, rfl, .ref a, rfl, a, _, rfl, E.X_InvalidText.O, E.h_InvalidText, .inl ⟨ea, q⟩⟩
abbrev i_InvalidLine : Stmt := inClass (top 5) 0
theorem sci_InvalidLine : FnScope ["self", "line"] ["self", "line"] (defScope i_InvalidLine) := ⟨rfl, rfl, rfl, by decide +kernel, rfl, by decide +kernel, by decide +kernel⟩
theorem ev_InvalidLine (E : TB K mg) : ErrV P w K mg base "InvalidLine" "line" E.c_InvalidLine := by
  refine ⟨E.X_InvalidLine.m, E.X_InvalidLine.n, OexC.em E.X_InvalidLine.O, _, _, E.X_InvalidLine.iC, E.X_InvalidLine.iT, ?_, fun s a v => bt_of E.X_InvalidLine.F (fun _ _ _ _ _ _ => rfl) s, fun s a v => bt_of E.X_InvalidLine.F (fun _ _ _ _ _ _ => rfl) s⟩
  exact E.X_InvalidLine.F.ok sci_InvalidLine spInit_len fun cdv A outer s H vs Q X0 hr h => by
    obtain ⟨a, v, rfl, ea, q⟩ := h
    refine ⟨_, pss_cons (ps_expr (pe_binit (by rfl) E.B_BreakError.g E.B_BreakError.k E.B_BreakError.r E.B_BreakError.s E.B_BreakError.v (pa_cons (pv 0) (pa_cons pe_str pa_nil)))) (pss_one (ps_ost (pv 0) (pv 1))), ?_⟩
    exact ⟨_, rfl, a, _, _, rfl, by show 1 ≤ 1000; decide, E.X_InvalidLine.O, ea, v, rfl, .ref a, rfl, a, _, rfl, E.X_InvalidLine.O, E.h_InvalidLine, .inl ⟨ea, q⟩⟩
abbrev i_NoStory : Stmt := inClass (top 6) 0
theorem sci_NoStory : FnScope ["self", "path"] ["self", "path"] (defScope i_NoStory) := ⟨rfl, rfl, rfl, by decide +kernel, rfl, by decide +kernel, by decide +kernel⟩
theorem ev_NoStory (E : TB K mg) : ErrV P w K mg base "NoStory" "path" E.c_NoStory := by
  refine ⟨E.X_NoStory.m, E.X_NoStory.n, OexC.em E.X_NoStory.O, _, _, E.X_NoStory.iC, E.X_NoStory.iT, ?_, fun s a v => bt_of E.X_NoStory.F (fun _ _ _ _ _ _ => rfl) s, fun s a v => bt_of E.X_NoStory.F (fun _ _ _ _ _ _ => rfl) s⟩
  exact E.X_NoStory.F.ok sci_NoStory spInit_len fun cdv A outer s H vs Q X0 hr h => by
    obtain ⟨a, v, rfl, ea, q⟩ := h
    refine ⟨_, pss_cons (ps_expr (pe_binit (by rfl) E.B_BreakError.g E.B_BreakError.k E.B_BreakError.r E.B_BreakError.s E.B_BreakError.v (pa_cons (pv 0) (pa_cons pe_str pa_nil)))) (pss_one (ps_ost (pv 0) (pv 1))), ?_⟩
    exact ⟨_, rfl, a, _, _, rfl, by show 1 ≤ 1000; decide, E.X_NoStory.O, ea, v, rfl, .ref a, rfl, a, _, rfl, E.X_NoStory.O, E.h_NoStory, .inl ⟨ea, q⟩⟩
abbrev i_TooGreat : Stmt := inClass (top 7) 0
theorem sci_TooGreat : FnScope ["self", "limit"] ["self", "limit"] (defScope i_TooGreat) := ⟨rfl, rfl, rfl, by decide +kernel, rfl, by decide +kernel, by decide +kernel⟩
theorem ev_TooGreat (E : TB K mg) : ErrV P w K mg base "TooGreat" "limit" E.c_TooGreat := by
  refine ⟨E.X_TooGreat.m, E.X_TooGreat.n, OexC.em E.X_TooGreat.O, _, _, E.X_TooGreat.iC, E.X_TooGreat.iT, ?_, fun s a v => bt_of E.X_TooGreat.F (fun _ _ _ _ _ _ => rfl) s, fun s a v => bt_of E.X_TooGreat.F (fun _ _ _ _ _ _ => rfl) s⟩
  exact E.X_TooGreat.F.ok sci_TooGreat spInit_len fun cdv A outer s H vs Q X0 hr h => by
    obtain ⟨a, v, rfl, ea, q⟩ := h
    refine ⟨_, pss_cons (ps_expr (pe_binit (by rfl) E.B_BreakError.g E.B_BreakError.k E.B_BreakError.r E.B_BreakError.s E.B_BreakError.v (pa_cons (pv 0) (pa_cons pe_str pa_nil)))) (pss_one (ps_ost (pv 0) (pv 1))), ?_⟩
    exact ⟨_, rfl, a, _, _, rfl, by show 1 ≤ 1000; decide, E.X_TooGreat.O, ea, v, rfl, .ref a, rfl, a, _, rfl, E.X_TooGreat.O, E.h_TooGreat, .inl ⟨ea, q⟩⟩
abbrev i_NotComparable : Stmt := inClass (top 8) 0
theorem sci_NotComparable : FnScope ["self", "name"] ["self", "name"] (defScope i_NotComparable) := ⟨rfl, rfl, rfl, by decide +kernel, rfl, by decide +kernel, by decide +kernel⟩
theorem ev_NotComparable (E : TB K mg) : ErrV P w K mg base "NotComparable" "name" E.c_NotComparable := by
  refine ⟨E.X_NotComparable.m, E.X_NotComparable.n, OexC.em E.X_NotComparable.O, _, _, E.X_NotComparable.iC, E.X_NotComparable.iT, ?_, fun s a v => bt_of E.X_NotComparable.F (fun _ _ _ _ _ _ => rfl) s, fun s a v => bt_of E.X_NotComparable.F (fun _ _ _ _ _ _ => rfl) s⟩
  exact E.X_NotComparable.F.ok sci_NotComparable spInit_len fun cdv A outer s H vs Q X0 hr h => by
    obtain ⟨a, v, rfl, ea, q⟩ := h
    refine ⟨_, pss_cons (ps_expr (pe_binit (by rfl) E.B_BreakError.g E.B_BreakError.k E.B_BreakError.r E.B_BreakError.s E.B_BreakError.v (pa_cons (pv 0) (pa_cons pe_str pa_nil)))) (pss_one (ps_ost (pv 0) (pv 1))), ?_⟩
    exact ⟨_, rfl, a, _, _, rfl, by show 1 ≤ 1000; decide, E.X_NotComparable.O, ea, v, rfl, .ref a, rfl, a, _, rfl, E.X_NotComparable.O, E.h_NotComparable, .inl ⟨ea, q⟩⟩
abbrev i_NotLetIn : Stmt := inClass (top 9) 0
theorem sci_NotLetIn : FnScope ["self", "request"] ["self", "request"] (defScope i_NotLetIn) := ⟨rfl, rfl, rfl, by decide +kernel, rfl, by decide +kernel, by decide +kernel⟩
theorem ev_NotLetIn (E : TB K mg) : ErrV P w K mg base "NotLetIn" "request" E.c_NotLetIn := by
  refine ⟨E.X_NotLetIn.m, E.X_NotLetIn.n, OexC.em E.X_NotLetIn.O, _, _, E.X_NotLetIn.iC, E.X_NotLetIn.iT, ?_, fun s a v => bt_of E.X_NotLetIn.F (fun _ _ _ _ _ _ => rfl) s, fun s a v => bt_of E.X_NotLetIn.F (fun _ _ _ _ _ _ => rfl) s⟩
  exact E.X_NotLetIn.F.ok sci_NotLetIn spInit_len fun cdv A outer s H vs Q X0 hr h => by
    obtain ⟨a, v, rfl, ea, q⟩ := h
    refine ⟨_, pss_cons (ps_expr (pe_binit (by rfl) E.B_BreakError.g E.B_BreakError.k E.B_BreakError.r E.B_BreakError.s E.B_BreakError.v (pa_cons (pv 0) (pa_cons pe_str pa_nil)))) (pss_one (ps_ost (pv 0) (pv 1))), ?_⟩
    exact ⟨_, rfl, a, _, _, rfl, by show 1 ≤ 1000; decide, E.X_NotLetIn.O, ea, v, rfl, .ref a, rfl, a, _, rfl, E.X_NotLetIn.O, E.h_NotLetIn, .inl ⟨ea, q⟩⟩
abbrev i_NotWaiting : Stmt := inClass (top 10) 0
theorem sci_NotWaiting : FnScope ["self", "number"] ["self", "number"] (defScope i_NotWaiting) := ⟨rfl, rfl, rfl, by decide +kernel, rfl, by decide +kernel, by decide +kernel⟩
theorem ev_NotWaiting (E : TB K mg) : ErrV P w K mg base "NotWaiting" "number" E.c_NotWaiting := by
  refine ⟨E.X_NotWaiting.m, E.X_NotWaiting.n, OexC.em E.X_NotWaiting.O, _, _, E.X_NotWaiting.iC, E.X_NotWaiting.iT, ?_, fun s a v => bt_of E.X_NotWaiting.F (fun _ _ _ _ _ _ => rfl) s, fun s a v => bt_of E.X_NotWaiting.F (fun _ _ _ _ _ _ => rfl) s⟩
  exact E.X_NotWaiting.F.ok sci_NotWaiting spInit_len fun cdv A outer s H vs Q X0 hr h => by
    obtain ⟨a, v, rfl, ea, q⟩ := h
    refine ⟨_, pss_cons (ps_expr (pe_binit (by rfl) E.B_BreakError.g E.B_BreakError.k E.B_BreakError.r E.B_BreakError.s E.B_BreakError.v (pa_cons (pv 0) (pa_cons pe_str pa_nil)))) (pss_one (ps_ost (pv 0) (pv 1))), ?_⟩
    exact ⟨_, rfl, a, _, _, rfl, by show 1 ≤ 1000; decide, E.X_NotWaiting.O, ea, v, rfl, .ref a, rfl, a, _, rfl, E.X_NotWaiting.O, E.h_NotWaiting, .inl ⟨ea, q⟩⟩
abbrev i_Broken : Stmt := inClass (top 13) 0
theorem sci_Broken : FnScope ["self", "path"] ["self", "path"] (defScope i_Broken) := ⟨rfl, rfl, rfl, by decide +kernel, rfl, by decide +kernel, by decide +kernel⟩
theorem ev_Broken (E : TB K mg) : ErrV P w K mg base "Broken" "path" E.c_Broken := by
  refine ⟨E.X_Broken.m, E.X_Broken.n, OexC.em E.X_Broken.O, _, _, E.X_Broken.iC, E.X_Broken.iT, ?_, fun s a v => bt_of E.X_Broken.F (fun _ _ _ _ _ _ => rfl) s, fun s a v => bt_of E.X_Broken.F (fun _ _ _ _ _ _ => rfl) s⟩
  exact E.X_Broken.F.ok sci_Broken spInit_len fun cdv A outer s H vs Q X0 hr h => by
    obtain ⟨a, v, rfl, ea, q⟩ := h
    refine ⟨_, pss_cons (ps_expr (pe_binit (by rfl) E.B_BreakError.g E.B_BreakError.k E.B_BreakError.r E.B_BreakError.s E.B_BreakError.v (pa_cons (pv 0) (pa_cons pe_str pa_nil)))) (pss_one (ps_ost (pv 0) (pv 1))), ?_⟩
    exact ⟨_, rfl, a, _, _, rfl, by show 1 ≤ 1000; decide, E.X_Broken.O, ea, v, rfl, .ref a, rfl, a, _, rfl, E.X_Broken.O, E.h_Broken, .inl ⟨ea, q⟩⟩
abbrev i_UnknownOpen : Stmt := inClass (top 14) 0
theorem sci_UnknownOpen : FnScope ["self", "place"] ["self", "place"] (defScope i_UnknownOpen) := ⟨rfl, rfl, rfl, by decide +kernel, rfl, by decide +kernel, by decide +kernel⟩
theorem ev_UnknownOpen (E : TB K mg) : ErrV P w K mg base "UnknownOpen" "place" E.c_UnknownOpen := by
  refine ⟨E.X_UnknownOpen.m, E.X_UnknownOpen.n, KexC.em E.X_UnknownOpen.O, _, _, E.X_UnknownOpen.iC, E.X_UnknownOpen.iT, ?_, fun s a v => bt_of E.X_UnknownOpen.F (fun _ _ _ _ _ _ => rfl) s, fun s a v => bt_of E.X_UnknownOpen.F (fun _ _ _ _ _ _ => rfl) s⟩
  exact E.X_UnknownOpen.F.ok sci_UnknownOpen spInit_len fun cdv A outer s H vs Q X0 hr h => by
    obtain ⟨a, v, rfl, ea, q⟩ := h
    refine ⟨_, pss_cons (ps_expr (pe_keinit (by rfl) E.n_KeyError E.v_UnknownOpen (pa_cons (pv 0) (pa_cons pe_str pa_nil)))) (pss_one (ps_kst (pv 0) (pv 1))), ?_⟩
    exact ⟨_, rfl, a, _, _, rfl, by show 1 ≤ 1000; decide, E.X_UnknownOpen.O, ea, v, rfl, .ref a, rfl, a, _, rfl, E.X_UnknownOpen.O, E.h_UnknownOpen, ⟨ea, q⟩⟩
abbrev i_Empty : Stmt := inClass (top 11) 0
theorem sci_Empty : FnScope ["self"] ["self"] (defScope i_Empty) := ⟨rfl, rfl, rfl, by decide +kernel, rfl, by decide +kernel, by decide +kernel⟩
theorem ev_Empty (E : TB K mg) : ErrV0 P w K mg base "Empty" E.c_Empty := by
  refine ⟨E.X_Empty.m, E.X_Empty.n, OexC.em E.X_Empty.O, _, _, E.X_Empty.iC, E.X_Empty.iT, ?_, fun s a => bt_of E.X_Empty.F (fun _ _ _ _ _ _ => rfl) s⟩
  exact E.X_Empty.F.ok sci_Empty spInit0_len fun cdv A outer s H vs Q X0 hr h => by
    obtain ⟨a, rfl, ea, q⟩ := h
    refine ⟨_, pss_one (ps_expr (pe_binit (by rfl) E.B_BreakError.g E.B_BreakError.k E.B_BreakError.r E.B_BreakError.s E.B_BreakError.v (pa_cons (pv 0) (pa_cons pe_str pa_nil)))), ?_⟩
    exact ⟨_, rfl, a, _, _, rfl, by show 1 ≤ 1000; decide, E.X_Empty.O, ea, q⟩
abbrev i_Busy : Stmt := inClass (top 12) 0
theorem sci_Busy : FnScope ["self"] ["self"] (defScope i_Busy) := ⟨rfl, rfl, rfl, by decide +kernel, rfl, by decide +kernel, by decide +kernel⟩
theorem ev_Busy (E : TB K mg) : ErrV0 P w K mg base "Busy" E.c_Busy := by
  refine ⟨E.X_Busy.m, E.X_Busy.n, OexC.em E.X_Busy.O, _, _, E.X_Busy.iC, E.X_Busy.iT, ?_, fun s a => bt_of E.X_Busy.F (fun _ _ _ _ _ _ => rfl) s⟩
  exact E.X_Busy.F.ok sci_Busy spInit0_len fun cdv A outer s H vs Q X0 hr h => by
    obtain ⟨a, rfl, ea, q⟩ := h
    refine ⟨_, pss_one (ps_expr (pe_binit (by rfl) E.B_BreakError.g E.B_BreakError.k E.B_BreakError.r E.B_BreakError.s E.B_BreakError.v (pa_cons (pv 0) (pa_cons pe_str pa_nil)))), ?_⟩
    exact ⟨_, rfl, a, _, _, rfl, by show 1 ≤ 1000; decide, E.X_Busy.O, ea, q⟩
def tabfl_part : List (Str × Bool) := [("InvalidProgram", true), ("TooMany", false), ("InvalidText", false), ("InvalidLine", false), ("NoStory", false), ("TooGreat", false), ("NotComparable", false), ("NotLetIn", false), ("NotWaiting", false), ("Broken", false), ("UnknownOpen", false), ("Empty", false), ("Busy", false)]
theorem tf_part (E : TB K mg) : TabN K (fun c v => v = true → ∃ C, c = .ref C ∧ XfC K C ∧ PySem.W.findIn K (.ref C) "part" = some none) tabfl_part := (tabn_cons E.X_InvalidProgram.n E.X_InvalidProgram.X (fun _ => ⟨_, rfl, E.X_InvalidProgram.xf, E.h_InvalidProgram⟩) (tabn_cons E.X_TooMany.n E.X_TooMany.X (fun z => by cases z) (tabn_cons E.X_InvalidText.n E.X_InvalidText.X (fun z => by cases z) (tabn_cons E.X_InvalidLine.n E.X_InvalidLine.X (fun z => by cases z) (tabn_cons E.X_NoStory.n E.X_NoStory.X (fun z => by cases z) (tabn_cons E.X_TooGreat.n E.X_TooGreat.X (fun z => by cases z) (tabn_cons E.X_NotComparable.n E.X_NotComparable.X (fun z => by cases z) (tabn_cons E.X_NotLetIn.n E.X_NotLetIn.X (fun z => by cases z) (tabn_cons E.X_NotWaiting.n E.X_NotWaiting.X (fun z => by cases z) (tabn_cons E.X_Broken.n E.X_Broken.X (fun z => by cases z) (tabn_cons E.X_UnknownOpen.n E.X_UnknownOpen.X (fun z => by cases z) (tabn_cons E.X_Empty.n E.X_Empty.X (fun z => by cases z) (tabn_cons E.X_Busy.n E.X_Busy.X (fun z => by cases z) tabn_nil)))))))))))))
def tabfl_what : List (Str × Bool) := [("InvalidProgram", false), ("TooMany", true), ("InvalidText", false), ("InvalidLine", false), ("NoStory", false), ("TooGreat", false), ("NotComparable", false), ("NotLetIn", false), ("NotWaiting", false), ("Broken", false), ("UnknownOpen", false), ("Empty", false), ("Busy", false)]
theorem tf_what (E : TB K mg) : TabN K (fun c v => v = true → ∃ C, c = .ref C ∧ XfC K C ∧ PySem.W.findIn K (.ref C) "what" = some none) tabfl_what := (tabn_cons E.X_InvalidProgram.n E.X_InvalidProgram.X (fun z => by cases z) (tabn_cons E.X_TooMany.n E.X_TooMany.X (fun _ => ⟨_, rfl, E.X_TooMany.xf, E.h_TooMany⟩) (tabn_cons E.X_InvalidText.n E.X_InvalidText.X (fun z => by cases z) (tabn_cons E.X_InvalidLine.n E.X_InvalidLine.X (fun z => by cases z) (tabn_cons E.X_NoStory.n E.X_NoStory.X (fun z => by cases z) (tabn_cons E.X_TooGreat.n E.X_TooGreat.X (fun z => by cases z) (tabn_cons E.X_NotComparable.n E.X_NotComparable.X (fun z => by cases z) (tabn_cons E.X_NotLetIn.n E.X_NotLetIn.X (fun z => by cases z) (tabn_cons E.X_NotWaiting.n E.X_NotWaiting.X (fun z => by cases z) (tabn_cons E.X_Broken.n E.X_Broken.X (fun z => by cases z) (tabn_cons E.X_UnknownOpen.n E.X_UnknownOpen.X (fun z => by cases z) (tabn_cons E.X_Empty.n E.X_Empty.X (fun z => by cases z) (tabn_cons E.X_Busy.n E.X_Busy.X (fun z => by cases z) tabn_nil)))))))))))))
def tabfl_line : List (Str × Bool) := [("InvalidProgram", false), ("TooMany", false), ("InvalidText", true), ("InvalidLine", true), ("NoStory", false), ("TooGreat", false), ("NotComparable", false), ("NotLetIn", false), ("NotWaiting", false), ("Broken", false), ("UnknownOpen", false), ("Empty", false), ("Busy", false)]
theorem tf_line (E : TB K mg) : TabN K (fun c v => v = true → ∃ C, c = .ref C ∧ XfC K C ∧ PySem.W.findIn K (.ref C) "line" = some none) tabfl_line := (tabn_cons E.X_InvalidProgram.n E.X_InvalidProgram.X (fun z => by cases z) (tabn_cons E.X_TooMany.n E.X_TooMany.X (fun z => by cases z) (tabn_cons E.X_InvalidText.n E.X_InvalidText.X (fun _ => ⟨_, rfl, E.X_InvalidText.xf, E.h_InvalidText⟩) (tabn_cons E.X_InvalidLine.n E.X_InvalidLine.X (fun _ => ⟨_, rfl, E.X_InvalidLine.xf, E.h_InvalidLine⟩) (tabn_cons E.X_NoStory.n E.X_NoStory.X (fun z => by cases z) (tabn_cons E.X_TooGreat.n E.X_TooGreat.X (fun z => by cases z) (tabn_cons E.X_NotComparable.n E.X_NotComparable.X (fun z => by cases z) (tabn_cons E.X_NotLetIn.n E.X_NotLetIn.X (fun z => by cases z) (tabn_cons E.X_NotWaiting.n E.X_NotWaiting.X (fun z => by cases z) (tabn_cons E.X_Broken.n E.X_Broken.X (fun z => by cases z) (tabn_cons E.X_UnknownOpen.n E.X_UnknownOpen.X (fun z => by cases z) (tabn_cons E.X_Empty.n E.X_Empty.X (fun z => by cases z) (tabn_cons E.X_Busy.n E.X_Busy.X (fun z => by cases z) tabn_nil)))))))))))))
def tabfl_path : List (Str × Bool) := [("InvalidProgram", false), ("TooMany", false), ("InvalidText", false), ("InvalidLine", false), ("NoStory", true), ("TooGreat", false), ("NotComparable", false), ("NotLetIn", false), ("NotWaiting", false), ("Broken", true), ("UnknownOpen", false), ("Empty", false), ("Busy", false)]
theorem tf_path (E : TB K mg) : TabN K (fun c v => v = true → ∃ C, c = .ref C ∧ XfC K C ∧ PySem.W.findIn K (.ref C) "path" = some none) tabfl_path := (tabn_cons E.X_InvalidProgram.n E.X_InvalidProgram.X (fun z => by cases z) (tabn_cons E.X_TooMany.n E.X_TooMany.X (fun z => by cases z) (tabn_cons E.X_InvalidText.n E.X_InvalidText.X (fun z => by cases z) (tabn_cons E.X_InvalidLine.n E.X_InvalidLine.X (fun z => by cases z) (tabn_cons E.X_NoStory.n E.X_NoStory.X (fun _ => ⟨_, rfl, E.X_NoStory.xf, E.h_NoStory⟩) (tabn_cons E.X_TooGreat.n E.X_TooGreat.X (fun z => by cases z) (tabn_cons E.X_NotComparable.n E.X_NotComparable.X (fun z => by cases z) (tabn_cons E.X_NotLetIn.n E.X_NotLetIn.X (fun z => by cases z) (tabn_cons E.X_NotWaiting.n E.X_NotWaiting.X (fun z => by cases z) (tabn_cons E.X_Broken.n E.X_Broken.X (fun _ => ⟨_, rfl, E.X_Broken.xf, E.h_Broken⟩) (tabn_cons E.X_UnknownOpen.n E.X_UnknownOpen.X (fun z => by cases z) (tabn_cons E.X_Empty.n E.X_Empty.X (fun z => by cases z) (tabn_cons E.X_Busy.n E.X_Busy.X (fun z => by cases z) tabn_nil)))))))))))))
def tabfl_limit : List (Str × Bool) := [("InvalidProgram", false), ("TooMany", false), ("InvalidText", false), ("InvalidLine", false), ("NoStory", false), ("TooGreat", true), ("NotComparable", false), ("NotLetIn", false), ("NotWaiting", false), ("Broken", false), ("UnknownOpen", false), ("Empty", false), ("Busy", false)]
theorem tf_limit (E : TB K mg) : TabN K (fun c v => v = true → ∃ C, c = .ref C ∧ XfC K C ∧ PySem.W.findIn K (.ref C) "limit" = some none) tabfl_limit := (tabn_cons E.X_InvalidProgram.n E.X_InvalidProgram.X (fun z => by cases z) (tabn_cons E.X_TooMany.n E.X_TooMany.X (fun z => by cases z) (tabn_cons E.X_InvalidText.n E.X_InvalidText.X (fun z => by cases z) (tabn_cons E.X_InvalidLine.n E.X_InvalidLine.X (fun z => by cases z) (tabn_cons E.X_NoStory.n E.X_NoStory.X (fun z => by cases z) (tabn_cons E.X_TooGreat.n E.X_TooGreat.X (fun _ => ⟨_, rfl, E.X_TooGreat.xf, E.h_TooGreat⟩) (tabn_cons E.X_NotComparable.n E.X_NotComparable.X (fun z => by cases z) (tabn_cons E.X_NotLetIn.n E.X_NotLetIn.X (fun z => by cases z) (tabn_cons E.X_NotWaiting.n E.X_NotWaiting.X (fun z => by cases z) (tabn_cons E.X_Broken.n E.X_Broken.X (fun z => by cases z) (tabn_cons E.X_UnknownOpen.n E.X_UnknownOpen.X (fun z => by cases z) (tabn_cons E.X_Empty.n E.X_Empty.X (fun z => by cases z) (tabn_cons E.X_Busy.n E.X_Busy.X (fun z => by cases z) tabn_nil)))))))))))))
def tabfl_name : List (Str × Bool) := [("InvalidProgram", false), ("TooMany", false), ("InvalidText", false), ("InvalidLine", false), ("NoStory", false), ("TooGreat", false), ("NotComparable", true), ("NotLetIn", false), ("NotWaiting", false), ("Broken", false), ("UnknownOpen", false), ("Empty", false), ("Busy", false)]
theorem tf_name (E : TB K mg) : TabN K (fun c v => v = true → ∃ C, c = .ref C ∧ XfC K C ∧ PySem.W.findIn K (.ref C) "name" = some none) tabfl_name := (tabn_cons E.X_InvalidProgram.n E.X_InvalidProgram.X (fun z => by cases z) (tabn_cons E.X_TooMany.n E.X_TooMany.X (fun z => by cases z) (tabn_cons E.X_InvalidText.n E.X_InvalidText.X (fun z => by cases z) (tabn_cons E.X_InvalidLine.n E.X_InvalidLine.X (fun z => by cases z) (tabn_cons E.X_NoStory.n E.X_NoStory.X (fun z => by cases z) (tabn_cons E.X_TooGreat.n E.X_TooGreat.X (fun z => by cases z) (tabn_cons E.X_NotComparable.n E.X_NotComparable.X (fun _ => ⟨_, rfl, E.X_NotComparable.xf, E.h_NotComparable⟩) (tabn_cons E.X_NotLetIn.n E.X_NotLetIn.X (fun z => by cases z) (tabn_cons E.X_NotWaiting.n E.X_NotWaiting.X (fun z => by cases z) (tabn_cons E.X_Broken.n E.X_Broken.X (fun z => by cases z) (tabn_cons E.X_UnknownOpen.n E.X_UnknownOpen.X (fun z => by cases z) (tabn_cons E.X_Empty.n E.X_Empty.X (fun z => by cases z) (tabn_cons E.X_Busy.n E.X_Busy.X (fun z => by cases z) tabn_nil)))))))))))))
def tabfl_request : List (Str × Bool) := [("InvalidProgram", false), ("TooMany", false), ("InvalidText", false), ("InvalidLine", false), ("NoStory", false), ("TooGreat", false), ("NotComparable", false), ("NotLetIn", true), ("NotWaiting", false), ("Broken", false), ("UnknownOpen", false), ("Empty", false), ("Busy", false)]
theorem tf_request (E : TB K mg) : TabN K (fun c v => v = true → ∃ C, c = .ref C ∧ XfC K C ∧ PySem.W.findIn K (.ref C) "request" = some none) tabfl_request := (tabn_cons E.X_InvalidProgram.n E.X_InvalidProgram.X (fun z => by cases z) (tabn_cons E.X_TooMany.n E.X_TooMany.X (fun z => by cases z) (tabn_cons E.X_InvalidText.n E.X_InvalidText.X (fun z => by cases z) (tabn_cons E.X_InvalidLine.n E.X_InvalidLine.X (fun z => by cases z) (tabn_cons E.X_NoStory.n E.X_NoStory.X (fun z => by cases z) (tabn_cons E.X_TooGreat.n E.X_TooGreat.X (fun z => by cases z) (tabn_cons E.X_NotComparable.n E.X_NotComparable.X (fun z => by cases z) (tabn_cons E.X_NotLetIn.n E.X_NotLetIn.X (fun _ => ⟨_, rfl, E.X_NotLetIn.xf, E.h_NotLetIn⟩) (tabn_cons E.X_NotWaiting.n E.X_NotWaiting.X (fun z => by cases z) (tabn_cons E.X_Broken.n E.X_Broken.X (fun z => by cases z) (tabn_cons E.X_UnknownOpen.n E.X_UnknownOpen.X (fun z => by cases z) (tabn_cons E.X_Empty.n E.X_Empty.X (fun z => by cases z) (tabn_cons E.X_Busy.n E.X_Busy.X (fun z => by cases z) tabn_nil)))))))))))))
def tabfl_number : List (Str × Bool) := [("InvalidProgram", false), ("TooMany", false), ("InvalidText", false), ("InvalidLine", false), ("NoStory", false), ("TooGreat", false), ("NotComparable", false), ("NotLetIn", false), ("NotWaiting", true), ("Broken", false), ("UnknownOpen", false), ("Empty", false), ("Busy", false)]
theorem tf_number (E : TB K mg) : TabN K (fun c v => v = true → ∃ C, c = .ref C ∧ XfC K C ∧ PySem.W.findIn K (.ref C) "number" = some none) tabfl_number := (tabn_cons E.X_InvalidProgram.n E.X_InvalidProgram.X (fun z => by cases z) (tabn_cons E.X_TooMany.n E.X_TooMany.X (fun z => by cases z) (tabn_cons E.X_InvalidText.n E.X_InvalidText.X (fun z => by cases z) (tabn_cons E.X_InvalidLine.n E.X_InvalidLine.X (fun z => by cases z) (tabn_cons E.X_NoStory.n E.X_NoStory.X (fun z => by cases z) (tabn_cons E.X_TooGreat.n E.X_TooGreat.X (fun z => by cases z) (tabn_cons E.X_NotComparable.n E.X_NotComparable.X (fun z => by cases z) (tabn_cons E.X_NotLetIn.n E.X_NotLetIn.X (fun z => by cases z) (tabn_cons E.X_NotWaiting.n E.X_NotWaiting.X (fun _ => ⟨_, rfl, E.X_NotWaiting.xf, E.h_NotWaiting⟩) (tabn_cons E.X_Broken.n E.X_Broken.X (fun z => by cases z) (tabn_cons E.X_UnknownOpen.n E.X_UnknownOpen.X (fun z => by cases z) (tabn_cons E.X_Empty.n E.X_Empty.X (fun z => by cases z) (tabn_cons E.X_Busy.n E.X_Busy.X (fun z => by cases z) tabn_nil)))))))))))))
def tabfl_place : List (Str × Bool) := [("InvalidProgram", false), ("TooMany", false), ("InvalidText", false), ("InvalidLine", false), ("NoStory", false), ("TooGreat", false), ("NotComparable", false), ("NotLetIn", false), ("NotWaiting", false), ("Broken", false), ("UnknownOpen", true), ("Empty", false), ("Busy", false)]
theorem tf_place (E : TB K mg) : TabN K (fun c v => v = true → ∃ C, c = .ref C ∧ XfC K C ∧ PySem.W.findIn K (.ref C) "place" = some none) tabfl_place := (tabn_cons E.X_InvalidProgram.n E.X_InvalidProgram.X (fun z => by cases z) (tabn_cons E.X_TooMany.n E.X_TooMany.X (fun z => by cases z) (tabn_cons E.X_InvalidText.n E.X_InvalidText.X (fun z => by cases z) (tabn_cons E.X_InvalidLine.n E.X_InvalidLine.X (fun z => by cases z) (tabn_cons E.X_NoStory.n E.X_NoStory.X (fun z => by cases z) (tabn_cons E.X_TooGreat.n E.X_TooGreat.X (fun z => by cases z) (tabn_cons E.X_NotComparable.n E.X_NotComparable.X (fun z => by cases z) (tabn_cons E.X_NotLetIn.n E.X_NotLetIn.X (fun z => by cases z) (tabn_cons E.X_NotWaiting.n E.X_NotWaiting.X (fun z => by cases z) (tabn_cons E.X_Broken.n E.X_Broken.X (fun z => by cases z) (tabn_cons E.X_UnknownOpen.n E.X_UnknownOpen.X (fun _ => ⟨_, rfl, E.X_UnknownOpen.xf, E.h_UnknownOpen⟩) (tabn_cons E.X_Empty.n E.X_Empty.X (fun z => by cases z) (tabn_cons E.X_Busy.n E.X_Busy.X (fun z => by cases z) tabn_nil)))))))))))))
def tabis_InvalidText : List (Str × Bool) := [("InvalidProgram", false), ("TooMany", false), ("InvalidText", true), ("InvalidLine", false), ("NoStory", false), ("TooGreat", false), ("NotComparable", false), ("NotLetIn", false), ("NotWaiting", false), ("Broken", false), ("UnknownOpen", false), ("Empty", false), ("Busy", false)]
theorem ti_InvalidText (E : TB K mg) : TabN K (fun c v => PySem.W.kitOne K c (.ref E.e_InvalidText) = some v) tabis_InvalidText := (tabn_cons E.X_InvalidProgram.n E.X_InvalidProgram.X (E.D_InvalidText.kit E.s_InvalidProgram_InvalidText (.inr E.r_InvalidProgram_InvalidText)) (tabn_cons E.X_TooMany.n E.X_TooMany.X (E.D_InvalidText.kit E.s_TooMany_InvalidText (.inr E.r_TooMany_InvalidText)) (tabn_cons E.X_InvalidText.n E.X_InvalidText.X (E.D_InvalidText.kit E.s_InvalidText_InvalidText (.inl rfl)) (tabn_cons E.X_InvalidLine.n E.X_InvalidLine.X (E.D_InvalidText.kit E.s_InvalidLine_InvalidText (.inr E.r_InvalidLine_InvalidText)) (tabn_cons E.X_NoStory.n E.X_NoStory.X (E.D_InvalidText.kit E.s_NoStory_InvalidText (.inr E.r_NoStory_InvalidText)) (tabn_cons E.X_TooGreat.n E.X_TooGreat.X (E.D_InvalidText.kit E.s_TooGreat_InvalidText (.inr E.r_TooGreat_InvalidText)) (tabn_cons E.X_NotComparable.n E.X_NotComparable.X (E.D_InvalidText.kit E.s_NotComparable_InvalidText (.inr E.r_NotComparable_InvalidText)) (tabn_cons E.X_NotLetIn.n E.X_NotLetIn.X (E.D_InvalidText.kit E.s_NotLetIn_InvalidText (.inr E.r_NotLetIn_InvalidText)) (tabn_cons E.X_NotWaiting.n E.X_NotWaiting.X (E.D_InvalidText.kit E.s_NotWaiting_InvalidText (.inr E.r_NotWaiting_InvalidText)) (tabn_cons E.X_Broken.n E.X_Broken.X (E.D_InvalidText.kit E.s_Broken_InvalidText (.inr E.r_Broken_InvalidText)) (tabn_cons E.X_UnknownOpen.n E.X_UnknownOpen.X (E.D_InvalidText.kit E.s_UnknownOpen_InvalidText (.inr E.r_UnknownOpen_InvalidText)) (tabn_cons E.X_Empty.n E.X_Empty.X (E.D_InvalidText.kit E.s_Empty_InvalidText (.inr E.r_Empty_InvalidText)) (tabn_cons E.X_Busy.n E.X_Busy.X (E.D_InvalidText.kit E.s_Busy_InvalidText (.inr E.r_Busy_InvalidText)) tabn_nil)))))))))))))
def tabis_TooMany : List (Str × Bool) := [("InvalidProgram", false), ("TooMany", true), ("InvalidText", false), ("InvalidLine", false), ("NoStory", false), ("TooGreat", false), ("NotComparable", false), ("NotLetIn", false), ("NotWaiting", false), ("Broken", false), ("UnknownOpen", false), ("Empty", false), ("Busy", false)]
theorem ti_TooMany (E : TB K mg) : TabN K (fun c v => PySem.W.kitOne K c (.ref E.e_TooMany) = some v) tabis_TooMany := (tabn_cons E.X_InvalidProgram.n E.X_InvalidProgram.X (E.D_TooMany.kit E.s_InvalidProgram_TooMany (.inr E.r_InvalidProgram_TooMany)) (tabn_cons E.X_TooMany.n E.X_TooMany.X (E.D_TooMany.kit E.s_TooMany_TooMany (.inl rfl)) (tabn_cons E.X_InvalidText.n E.X_InvalidText.X (E.D_TooMany.kit E.s_InvalidText_TooMany (.inr E.r_InvalidText_TooMany)) (tabn_cons E.X_InvalidLine.n E.X_InvalidLine.X (E.D_TooMany.kit E.s_InvalidLine_TooMany (.inr E.r_InvalidLine_TooMany)) (tabn_cons E.X_NoStory.n E.X_NoStory.X (E.D_TooMany.kit E.s_NoStory_TooMany (.inr E.r_NoStory_TooMany)) (tabn_cons E.X_TooGreat.n E.X_TooGreat.X (E.D_TooMany.kit E.s_TooGreat_TooMany (.inr E.r_TooGreat_TooMany)) (tabn_cons E.X_NotComparable.n E.X_NotComparable.X (E.D_TooMany.kit E.s_NotComparable_TooMany (.inr E.r_NotComparable_TooMany)) (tabn_cons E.X_NotLetIn.n E.X_NotLetIn.X (E.D_TooMany.kit E.s_NotLetIn_TooMany (.inr E.r_NotLetIn_TooMany)) (tabn_cons E.X_NotWaiting.n E.X_NotWaiting.X (E.D_TooMany.kit E.s_NotWaiting_TooMany (.inr E.r_NotWaiting_TooMany)) (tabn_cons E.X_Broken.n E.X_Broken.X (E.D_TooMany.kit E.s_Broken_TooMany (.inr E.r_Broken_TooMany)) (tabn_cons E.X_UnknownOpen.n E.X_UnknownOpen.X (E.D_TooMany.kit E.s_UnknownOpen_TooMany (.inr E.r_UnknownOpen_TooMany)) (tabn_cons E.X_Empty.n E.X_Empty.X (E.D_TooMany.kit E.s_Empty_TooMany (.inr E.r_Empty_TooMany)) (tabn_cons E.X_Busy.n E.X_Busy.X (E.D_TooMany.kit E.s_Busy_TooMany (.inr E.r_Busy_TooMany)) tabn_nil)))))))))))))
def tabis_InvalidProgram : List (Str × Bool) := [("InvalidProgram", true), ("TooMany", false), ("InvalidText", false), ("InvalidLine", false), ("NoStory", false), ("TooGreat", false), ("NotComparable", false), ("NotLetIn", false), ("NotWaiting", false), ("Broken", false), ("UnknownOpen", false), ("Empty", false), ("Busy", false)]
theorem ti_InvalidProgram (E : TB K mg) : TabN K (fun c v => PySem.W.kitOne K c (.ref E.e_InvalidProgram) = some v) tabis_InvalidProgram := (tabn_cons E.X_InvalidProgram.n E.X_InvalidProgram.X (E.D_InvalidProgram.kit E.s_InvalidProgram_InvalidProgram (.inl rfl)) (tabn_cons E.X_TooMany.n E.X_TooMany.X (E.D_InvalidProgram.kit E.s_TooMany_InvalidProgram (.inr E.r_TooMany_InvalidProgram)) (tabn_cons E.X_InvalidText.n E.X_InvalidText.X (E.D_InvalidProgram.kit E.s_InvalidText_InvalidProgram (.inr E.r_InvalidText_InvalidProgram)) (tabn_cons E.X_InvalidLine.n E.X_InvalidLine.X (E.D_InvalidProgram.kit E.s_InvalidLine_InvalidProgram (.inr E.r_InvalidLine_InvalidProgram)) (tabn_cons E.X_NoStory.n E.X_NoStory.X (E.D_InvalidProgram.kit E.s_NoStory_InvalidProgram (.inr E.r_NoStory_InvalidProgram)) (tabn_cons E.X_TooGreat.n E.X_TooGreat.X (E.D_InvalidProgram.kit E.s_TooGreat_InvalidProgram (.inr E.r_TooGreat_InvalidProgram)) (tabn_cons E.X_NotComparable.n E.X_NotComparable.X (E.D_InvalidProgram.kit E.s_NotComparable_InvalidProgram (.inr E.r_NotComparable_InvalidProgram)) (tabn_cons E.X_NotLetIn.n E.X_NotLetIn.X (E.D_InvalidProgram.kit E.s_NotLetIn_InvalidProgram (.inr E.r_NotLetIn_InvalidProgram)) (tabn_cons E.X_NotWaiting.n E.X_NotWaiting.X (E.D_InvalidProgram.kit E.s_NotWaiting_InvalidProgram (.inr E.r_NotWaiting_InvalidProgram)) (tabn_cons E.X_Broken.n E.X_Broken.X (E.D_InvalidProgram.kit E.s_Broken_InvalidProgram (.inr E.r_Broken_InvalidProgram)) (tabn_cons E.X_UnknownOpen.n E.X_UnknownOpen.X (E.D_InvalidProgram.kit E.s_UnknownOpen_InvalidProgram (.inr E.r_UnknownOpen_InvalidProgram)) (tabn_cons E.X_Empty.n E.X_Empty.X (E.D_InvalidProgram.kit E.s_Empty_InvalidProgram (.inr E.r_Empty_InvalidProgram)) (tabn_cons E.X_Busy.n E.X_Busy.X (E.D_InvalidProgram.kit E.s_Busy_InvalidProgram (.inr E.r_Busy_InvalidProgram)) tabn_nil)))))))))))))
def tabis_TooGreat : List (Str × Bool) := [("InvalidProgram", false), ("TooMany", false), ("InvalidText", false), ("InvalidLine", false), ("NoStory", false), ("TooGreat", true), ("NotComparable", false), ("NotLetIn", false), ("NotWaiting", false), ("Broken", false), ("UnknownOpen", false), ("Empty", false), ("Busy", false)]
theorem ti_TooGreat (E : TB K mg) : TabN K (fun c v => PySem.W.kitOne K c (.ref E.e_TooGreat) = some v) tabis_TooGreat := (tabn_cons E.X_InvalidProgram.n E.X_InvalidProgram.X (E.D_TooGreat.kit E.s_InvalidProgram_TooGreat (.inr E.r_InvalidProgram_TooGreat)) (tabn_cons E.X_TooMany.n E.X_TooMany.X (E.D_TooGreat.kit E.s_TooMany_TooGreat (.inr E.r_TooMany_TooGreat)) (tabn_cons E.X_InvalidText.n E.X_InvalidText.X (E.D_TooGreat.kit E.s_InvalidText_TooGreat (.inr E.r_InvalidText_TooGreat)) (tabn_cons E.X_InvalidLine.n E.X_InvalidLine.X (E.D_TooGreat.kit E.s_InvalidLine_TooGreat (.inr E.r_InvalidLine_TooGreat)) (tabn_cons E.X_NoStory.n E.X_NoStory.X (E.D_TooGreat.kit E.s_NoStory_TooGreat (.inr E.r_NoStory_TooGreat)) (tabn_cons E.X_TooGreat.n E.X_TooGreat.X (E.D_TooGreat.kit E.s_TooGreat_TooGreat (.inl rfl)) (tabn_cons E.X_NotComparable.n E.X_NotComparable.X (E.D_TooGreat.kit E.s_NotComparable_TooGreat (.inr E.r_NotComparable_TooGreat)) (tabn_cons E.X_NotLetIn.n E.X_NotLetIn.X (E.D_TooGreat.kit E.s_NotLetIn_TooGreat (.inr E.r_NotLetIn_TooGreat)) (tabn_cons E.X_NotWaiting.n E.X_NotWaiting.X (E.D_TooGreat.kit E.s_NotWaiting_TooGreat (.inr E.r_NotWaiting_TooGreat)) (tabn_cons E.X_Broken.n E.X_Broken.X (E.D_TooGreat.kit E.s_Broken_TooGreat (.inr E.r_Broken_TooGreat)) (tabn_cons E.X_UnknownOpen.n E.X_UnknownOpen.X (E.D_TooGreat.kit E.s_UnknownOpen_TooGreat (.inr E.r_UnknownOpen_TooGreat)) (tabn_cons E.X_Empty.n E.X_Empty.X (E.D_TooGreat.kit E.s_Empty_TooGreat (.inr E.r_Empty_TooGreat)) (tabn_cons E.X_Busy.n E.X_Busy.X (E.D_TooGreat.kit E.s_Busy_TooGreat (.inr E.r_Busy_TooGreat)) tabn_nil)))))))))))))
def tabis_NoStory : List (Str × Bool) := [("InvalidProgram", false), ("TooMany", false), ("InvalidText", false), ("InvalidLine", false), ("NoStory", true), ("TooGreat", false), ("NotComparable", false), ("NotLetIn", false), ("NotWaiting", false), ("Broken", false), ("UnknownOpen", false), ("Empty", false), ("Busy", false)]
theorem ti_NoStory (E : TB K mg) : TabN K (fun c v => PySem.W.kitOne K c (.ref E.e_NoStory) = some v) tabis_NoStory := (tabn_cons E.X_InvalidProgram.n E.X_InvalidProgram.X (E.D_NoStory.kit E.s_InvalidProgram_NoStory (.inr E.r_InvalidProgram_NoStory)) (tabn_cons E.X_TooMany.n E.X_TooMany.X (E.D_NoStory.kit E.s_TooMany_NoStory (.inr E.r_TooMany_NoStory)) (tabn_cons E.X_InvalidText.n E.X_InvalidText.X (E.D_NoStory.kit E.s_InvalidText_NoStory (.inr E.r_InvalidText_NoStory)) (tabn_cons E.X_InvalidLine.n E.X_InvalidLine.X (E.D_NoStory.kit E.s_InvalidLine_NoStory (.inr E.r_InvalidLine_NoStory)) (tabn_cons E.X_NoStory.n E.X_NoStory.X (E.D_NoStory.kit E.s_NoStory_NoStory (.inl rfl)) (tabn_cons E.X_TooGreat.n E.X_TooGreat.X (E.D_NoStory.kit E.s_TooGreat_NoStory (.inr E.r_TooGreat_NoStory)) (tabn_cons E.X_NotComparable.n E.X_NotComparable.X (E.D_NoStory.kit E.s_NotComparable_NoStory (.inr E.r_NotComparable_NoStory)) (tabn_cons E.X_NotLetIn.n E.X_NotLetIn.X (E.D_NoStory.kit E.s_NotLetIn_NoStory (.inr E.r_NotLetIn_NoStory)) (tabn_cons E.X_NotWaiting.n E.X_NotWaiting.X (E.D_NoStory.kit E.s_NotWaiting_NoStory (.inr E.r_NotWaiting_NoStory)) (tabn_cons E.X_Broken.n E.X_Broken.X (E.D_NoStory.kit E.s_Broken_NoStory (.inr E.r_Broken_NoStory)) (tabn_cons E.X_UnknownOpen.n E.X_UnknownOpen.X (E.D_NoStory.kit E.s_UnknownOpen_NoStory (.inr E.r_UnknownOpen_NoStory)) (tabn_cons E.X_Empty.n E.X_Empty.X (E.D_NoStory.kit E.s_Empty_NoStory (.inr E.r_Empty_NoStory)) (tabn_cons E.X_Busy.n E.X_Busy.X (E.D_NoStory.kit E.s_Busy_NoStory (.inr E.r_Busy_NoStory)) tabn_nil)))))))))))))
def tabis_InvalidLine : List (Str × Bool) := [("InvalidProgram", false), ("TooMany", false), ("InvalidText", false), ("InvalidLine", true), ("NoStory", false), ("TooGreat", false), ("NotComparable", false), ("NotLetIn", false), ("NotWaiting", false), ("Broken", false), ("UnknownOpen", false), ("Empty", false), ("Busy", false)]
theorem ti_InvalidLine (E : TB K mg) : TabN K (fun c v => PySem.W.kitOne K c (.ref E.e_InvalidLine) = some v) tabis_InvalidLine := (tabn_cons E.X_InvalidProgram.n E.X_InvalidProgram.X (E.D_InvalidLine.kit E.s_InvalidProgram_InvalidLine (.inr E.r_InvalidProgram_InvalidLine)) (tabn_cons E.X_TooMany.n E.X_TooMany.X (E.D_InvalidLine.kit E.s_TooMany_InvalidLine (.inr E.r_TooMany_InvalidLine)) (tabn_cons E.X_InvalidText.n E.X_InvalidText.X (E.D_InvalidLine.kit E.s_InvalidText_InvalidLine (.inr E.r_InvalidText_InvalidLine)) (tabn_cons E.X_InvalidLine.n E.X_InvalidLine.X (E.D_InvalidLine.kit E.s_InvalidLine_InvalidLine (.inl rfl)) (tabn_cons E.X_NoStory.n E.X_NoStory.X (E.D_InvalidLine.kit E.s_NoStory_InvalidLine (.inr E.r_NoStory_InvalidLine)) (tabn_cons E.X_TooGreat.n E.X_TooGreat.X (E.D_InvalidLine.kit E.s_TooGreat_InvalidLine (.inr E.r_TooGreat_InvalidLine)) (tabn_cons E.X_NotComparable.n E.X_NotComparable.X (E.D_InvalidLine.kit E.s_NotComparable_InvalidLine (.inr E.r_NotComparable_InvalidLine)) (tabn_cons E.X_NotLetIn.n E.X_NotLetIn.X (E.D_InvalidLine.kit E.s_NotLetIn_InvalidLine (.inr E.r_NotLetIn_InvalidLine)) (tabn_cons E.X_NotWaiting.n E.X_NotWaiting.X (E.D_InvalidLine.kit E.s_NotWaiting_InvalidLine (.inr E.r_NotWaiting_InvalidLine)) (tabn_cons E.X_Broken.n E.X_Broken.X (E.D_InvalidLine.kit E.s_Broken_InvalidLine (.inr E.r_Broken_InvalidLine)) (tabn_cons E.X_UnknownOpen.n E.X_UnknownOpen.X (E.D_InvalidLine.kit E.s_UnknownOpen_InvalidLine (.inr E.r_UnknownOpen_InvalidLine)) (tabn_cons E.X_Empty.n E.X_Empty.X (E.D_InvalidLine.kit E.s_Empty_InvalidLine (.inr E.r_Empty_InvalidLine)) (tabn_cons E.X_Busy.n E.X_Busy.X (E.D_InvalidLine.kit E.s_Busy_InvalidLine (.inr E.r_Busy_InvalidLine)) tabn_nil)))))))))))))
def tabis_NotWaiting : List (Str × Bool) := [("InvalidProgram", false), ("TooMany", false), ("InvalidText", false), ("InvalidLine", false), ("NoStory", false), ("TooGreat", false), ("NotComparable", false), ("NotLetIn", false), ("NotWaiting", true), ("Broken", false), ("UnknownOpen", false), ("Empty", false), ("Busy", false)]
theorem ti_NotWaiting (E : TB K mg) : TabN K (fun c v => PySem.W.kitOne K c (.ref E.e_NotWaiting) = some v) tabis_NotWaiting := (tabn_cons E.X_InvalidProgram.n E.X_InvalidProgram.X (E.D_NotWaiting.kit E.s_InvalidProgram_NotWaiting (.inr E.r_InvalidProgram_NotWaiting)) (tabn_cons E.X_TooMany.n E.X_TooMany.X (E.D_NotWaiting.kit E.s_TooMany_NotWaiting (.inr E.r_TooMany_NotWaiting)) (tabn_cons E.X_InvalidText.n E.X_InvalidText.X (E.D_NotWaiting.kit E.s_InvalidText_NotWaiting (.inr E.r_InvalidText_NotWaiting)) (tabn_cons E.X_InvalidLine.n E.X_InvalidLine.X (E.D_NotWaiting.kit E.s_InvalidLine_NotWaiting (.inr E.r_InvalidLine_NotWaiting)) (tabn_cons E.X_NoStory.n E.X_NoStory.X (E.D_NotWaiting.kit E.s_NoStory_NotWaiting (.inr E.r_NoStory_NotWaiting)) (tabn_cons E.X_TooGreat.n E.X_TooGreat.X (E.D_NotWaiting.kit E.s_TooGreat_NotWaiting (.inr E.r_TooGreat_NotWaiting)) (tabn_cons E.X_NotComparable.n E.X_NotComparable.X (E.D_NotWaiting.kit E.s_NotComparable_NotWaiting (.inr E.r_NotComparable_NotWaiting)) (tabn_cons E.X_NotLetIn.n E.X_NotLetIn.X (E.D_NotWaiting.kit E.s_NotLetIn_NotWaiting (.inr E.r_NotLetIn_NotWaiting)) (tabn_cons E.X_NotWaiting.n E.X_NotWaiting.X (E.D_NotWaiting.kit E.s_NotWaiting_NotWaiting (.inl rfl)) (tabn_cons E.X_Broken.n E.X_Broken.X (E.D_NotWaiting.kit E.s_Broken_NotWaiting (.inr E.r_Broken_NotWaiting)) (tabn_cons E.X_UnknownOpen.n E.X_UnknownOpen.X (E.D_NotWaiting.kit E.s_UnknownOpen_NotWaiting (.inr E.r_UnknownOpen_NotWaiting)) (tabn_cons E.X_Empty.n E.X_Empty.X (E.D_NotWaiting.kit E.s_Empty_NotWaiting (.inr E.r_Empty_NotWaiting)) (tabn_cons E.X_Busy.n E.X_Busy.X (E.D_NotWaiting.kit E.s_Busy_NotWaiting (.inr E.r_Busy_NotWaiting)) tabn_nil)))))))))))))
def tabis_NotLetIn : List (Str × Bool) := [("InvalidProgram", false), ("TooMany", false), ("InvalidText", false), ("InvalidLine", false), ("NoStory", false), ("TooGreat", false), ("NotComparable", false), ("NotLetIn", true), ("NotWaiting", false), ("Broken", false), ("UnknownOpen", false), ("Empty", false), ("Busy", false)]
theorem ti_NotLetIn (E : TB K mg) : TabN K (fun c v => PySem.W.kitOne K c (.ref E.e_NotLetIn) = some v) tabis_NotLetIn := (tabn_cons E.X_InvalidProgram.n E.X_InvalidProgram.X (E.D_NotLetIn.kit E.s_InvalidProgram_NotLetIn (.inr E.r_InvalidProgram_NotLetIn)) (tabn_cons E.X_TooMany.n E.X_TooMany.X (E.D_NotLetIn.kit E.s_TooMany_NotLetIn (.inr E.r_TooMany_NotLetIn)) (tabn_cons E.X_InvalidText.n E.X_InvalidText.X (E.D_NotLetIn.kit E.s_InvalidText_NotLetIn (.inr E.r_InvalidText_NotLetIn)) (tabn_cons E.X_InvalidLine.n E.X_InvalidLine.X (E.D_NotLetIn.kit E.s_InvalidLine_NotLetIn (.inr E.r_InvalidLine_NotLetIn)) (tabn_cons E.X_NoStory.n E.X_NoStory.X (E.D_NotLetIn.kit E.s_NoStory_NotLetIn (.inr E.r_NoStory_NotLetIn)) (tabn_cons E.X_TooGreat.n E.X_TooGreat.X (E.D_NotLetIn.kit E.s_TooGreat_NotLetIn (.inr E.r_TooGreat_NotLetIn)) (tabn_cons E.X_NotComparable.n E.X_NotComparable.X (E.D_NotLetIn.kit E.s_NotComparable_NotLetIn (.inr E.r_NotComparable_NotLetIn)) (tabn_cons E.X_NotLetIn.n E.X_NotLetIn.X (E.D_NotLetIn.kit E.s_NotLetIn_NotLetIn (.inl rfl)) (tabn_cons E.X_NotWaiting.n E.X_NotWaiting.X (E.D_NotLetIn.kit E.s_NotWaiting_NotLetIn (.inr E.r_NotWaiting_NotLetIn)) (tabn_cons E.X_Broken.n E.X_Broken.X (E.D_NotLetIn.kit E.s_Broken_NotLetIn (.inr E.r_Broken_NotLetIn)) (tabn_cons E.X_UnknownOpen.n E.X_UnknownOpen.X (E.D_NotLetIn.kit E.s_UnknownOpen_NotLetIn (.inr E.r_UnknownOpen_NotLetIn)) (tabn_cons E.X_Empty.n E.X_Empty.X (E.D_NotLetIn.kit E.s_Empty_NotLetIn (.inr E.r_Empty_NotLetIn)) (tabn_cons E.X_Busy.n E.X_Busy.X (E.D_NotLetIn.kit E.s_Busy_NotLetIn (.inr E.r_Busy_NotLetIn)) tabn_nil)))))))))))))
def tabis_NotComparable : List (Str × Bool) := [("InvalidProgram", false), ("TooMany", false), ("InvalidText", false), ("InvalidLine", false), ("NoStory", false), ("TooGreat", false), ("NotComparable", true), ("NotLetIn", false), ("NotWaiting", false), ("Broken", false), ("UnknownOpen", false), ("Empty", false), ("Busy", false)]
theorem ti_NotComparable (E : TB K mg) : TabN K (fun c v => PySem.W.kitOne K c (.ref E.e_NotComparable) = some v) tabis_NotComparable := (tabn_cons E.X_InvalidProgram.n E.X_InvalidProgram.X (E.D_NotComparable.kit E.s_InvalidProgram_NotComparable (.inr E.r_InvalidProgram_NotComparable)) (tabn_cons E.X_TooMany.n E.X_TooMany.X (E.D_NotComparable.kit E.s_TooMany_NotComparable (.inr E.r_TooMany_NotComparable)) (tabn_cons E.X_InvalidText.n E.X_InvalidText.X (E.D_NotComparable.kit E.s_InvalidText_NotComparable (.inr E.r_InvalidText_NotComparable)) (tabn_cons E.X_InvalidLine.n E.X_InvalidLine.X (E.D_NotComparable.kit E.s_InvalidLine_NotComparable (.inr E.r_InvalidLine_NotComparable)) (tabn_cons E.X_NoStory.n E.X_NoStory.X (E.D_NotComparable.kit E.s_NoStory_NotComparable (.inr E.r_NoStory_NotComparable)) (tabn_cons E.X_TooGreat.n E.X_TooGreat.X (E.D_NotComparable.kit E.s_TooGreat_NotComparable (.inr E.r_TooGreat_NotComparable)) (tabn_cons E.X_NotComparable.n E.X_NotComparable.X (E.D_NotComparable.kit E.s_NotComparable_NotComparable (.inl rfl)) (tabn_cons E.X_NotLetIn.n E.X_NotLetIn.X (E.D_NotComparable.kit E.s_NotLetIn_NotComparable (.inr E.r_NotLetIn_NotComparable)) (tabn_cons E.X_NotWaiting.n E.X_NotWaiting.X (E.D_NotComparable.kit E.s_NotWaiting_NotComparable (.inr E.r_NotWaiting_NotComparable)) (tabn_cons E.X_Broken.n E.X_Broken.X (E.D_NotComparable.kit E.s_Broken_NotComparable (.inr E.r_Broken_NotComparable)) (tabn_cons E.X_UnknownOpen.n E.X_UnknownOpen.X (E.D_NotComparable.kit E.s_UnknownOpen_NotComparable (.inr E.r_UnknownOpen_NotComparable)) (tabn_cons E.X_Empty.n E.X_Empty.X (E.D_NotComparable.kit E.s_Empty_NotComparable (.inr E.r_Empty_NotComparable)) (tabn_cons E.X_Busy.n E.X_Busy.X (E.D_NotComparable.kit E.s_Busy_NotComparable (.inr E.r_Busy_NotComparable)) tabn_nil)))))))))))))
def tabis_Busy : List (Str × Bool) := [("InvalidProgram", false), ("TooMany", false), ("InvalidText", false), ("InvalidLine", false), ("NoStory", false), ("TooGreat", false), ("NotComparable", false), ("NotLetIn", false), ("NotWaiting", false), ("Broken", false), ("UnknownOpen", false), ("Empty", false), ("Busy", true)]
theorem ti_Busy (E : TB K mg) : TabN K (fun c v => PySem.W.kitOne K c (.ref E.e_Busy) = some v) tabis_Busy := (tabn_cons E.X_InvalidProgram.n E.X_InvalidProgram.X (E.D_Busy.kit E.s_InvalidProgram_Busy (.inr E.r_InvalidProgram_Busy)) (tabn_cons E.X_TooMany.n E.X_TooMany.X (E.D_Busy.kit E.s_TooMany_Busy (.inr E.r_TooMany_Busy)) (tabn_cons E.X_InvalidText.n E.X_InvalidText.X (E.D_Busy.kit E.s_InvalidText_Busy (.inr E.r_InvalidText_Busy)) (tabn_cons E.X_InvalidLine.n E.X_InvalidLine.X (E.D_Busy.kit E.s_InvalidLine_Busy (.inr E.r_InvalidLine_Busy)) (tabn_cons E.X_NoStory.n E.X_NoStory.X (E.D_Busy.kit E.s_NoStory_Busy (.inr E.r_NoStory_Busy)) (tabn_cons E.X_TooGreat.n E.X_TooGreat.X (E.D_Busy.kit E.s_TooGreat_Busy (.inr E.r_TooGreat_Busy)) (tabn_cons E.X_NotComparable.n E.X_NotComparable.X (E.D_Busy.kit E.s_NotComparable_Busy (.inr E.r_NotComparable_Busy)) (tabn_cons E.X_NotLetIn.n E.X_NotLetIn.X (E.D_Busy.kit E.s_NotLetIn_Busy (.inr E.r_NotLetIn_Busy)) (tabn_cons E.X_NotWaiting.n E.X_NotWaiting.X (E.D_Busy.kit E.s_NotWaiting_Busy (.inr E.r_NotWaiting_Busy)) (tabn_cons E.X_Broken.n E.X_Broken.X (E.D_Busy.kit E.s_Broken_Busy (.inr E.r_Broken_Busy)) (tabn_cons E.X_UnknownOpen.n E.X_UnknownOpen.X (E.D_Busy.kit E.s_UnknownOpen_Busy (.inr E.r_UnknownOpen_Busy)) (tabn_cons E.X_Empty.n E.X_Empty.X (E.D_Busy.kit E.s_Empty_Busy (.inr E.r_Empty_Busy)) (tabn_cons E.X_Busy.n E.X_Busy.X (E.D_Busy.kit E.s_Busy_Busy (.inl rfl)) tabn_nil)))))))))))))
def tabis_Empty : List (Str × Bool) := [("InvalidProgram", false), ("TooMany", false), ("InvalidText", false), ("InvalidLine", false), ("NoStory", false), ("TooGreat", false), ("NotComparable", false), ("NotLetIn", false), ("NotWaiting", false), ("Broken", false), ("UnknownOpen", false), ("Empty", true), ("Busy", false)]
theorem ti_Empty (E : TB K mg) : TabN K (fun c v => PySem.W.kitOne K c (.ref E.e_Empty) = some v) tabis_Empty := (tabn_cons E.X_InvalidProgram.n E.X_InvalidProgram.X (E.D_Empty.kit E.s_InvalidProgram_Empty (.inr E.r_InvalidProgram_Empty)) (tabn_cons E.X_TooMany.n E.X_TooMany.X (E.D_Empty.kit E.s_TooMany_Empty (.inr E.r_TooMany_Empty)) (tabn_cons E.X_InvalidText.n E.X_InvalidText.X (E.D_Empty.kit E.s_InvalidText_Empty (.inr E.r_InvalidText_Empty)) (tabn_cons E.X_InvalidLine.n E.X_InvalidLine.X (E.D_Empty.kit E.s_InvalidLine_Empty (.inr E.r_InvalidLine_Empty)) (tabn_cons E.X_NoStory.n E.X_NoStory.X (E.D_Empty.kit E.s_NoStory_Empty (.inr E.r_NoStory_Empty)) (tabn_cons E.X_TooGreat.n E.X_TooGreat.X (E.D_Empty.kit E.s_TooGreat_Empty (.inr E.r_TooGreat_Empty)) (tabn_cons E.X_NotComparable.n E.X_NotComparable.X (E.D_Empty.kit E.s_NotComparable_Empty (.inr E.r_NotComparable_Empty)) (tabn_cons E.X_NotLetIn.n E.X_NotLetIn.X (E.D_Empty.kit E.s_NotLetIn_Empty (.inr E.r_NotLetIn_Empty)) (tabn_cons E.X_NotWaiting.n E.X_NotWaiting.X (E.D_Empty.kit E.s_NotWaiting_Empty (.inr E.r_NotWaiting_Empty)) (tabn_cons E.X_Broken.n E.X_Broken.X (E.D_Empty.kit E.s_Broken_Empty (.inr E.r_Broken_Empty)) (tabn_cons E.X_UnknownOpen.n E.X_UnknownOpen.X (E.D_Empty.kit E.s_UnknownOpen_Empty (.inr E.r_UnknownOpen_Empty)) (tabn_cons E.X_Empty.n E.X_Empty.X (E.D_Empty.kit E.s_Empty_Empty (.inl rfl)) (tabn_cons E.X_Busy.n E.X_Busy.X (E.D_Empty.kit E.s_Busy_Empty (.inr E.r_Busy_Empty)) tabn_nil)))))))))))))
def tabis_UnknownOpen : List (Str × Bool) := [("InvalidProgram", false), ("TooMany", false), ("InvalidText", false), ("InvalidLine", false), ("NoStory", false), ("TooGreat", false), ("NotComparable", false), ("NotLetIn", false), ("NotWaiting", false), ("Broken", false), ("UnknownOpen", true), ("Empty", false), ("Busy", false)]
theorem ti_UnknownOpen (E : TB K mg) : TabN K (fun c v => PySem.W.kitOne K c (.ref E.e_UnknownOpen) = some v) tabis_UnknownOpen := (tabn_cons E.X_InvalidProgram.n E.X_InvalidProgram.X (E.D_UnknownOpen.kit E.s_InvalidProgram_UnknownOpen (.inr E.r_InvalidProgram_UnknownOpen)) (tabn_cons E.X_TooMany.n E.X_TooMany.X (E.D_UnknownOpen.kit E.s_TooMany_UnknownOpen (.inr E.r_TooMany_UnknownOpen)) (tabn_cons E.X_InvalidText.n E.X_InvalidText.X (E.D_UnknownOpen.kit E.s_InvalidText_UnknownOpen (.inr E.r_InvalidText_UnknownOpen)) (tabn_cons E.X_InvalidLine.n E.X_InvalidLine.X (E.D_UnknownOpen.kit E.s_InvalidLine_UnknownOpen (.inr E.r_InvalidLine_UnknownOpen)) (tabn_cons E.X_NoStory.n E.X_NoStory.X (E.D_UnknownOpen.kit E.s_NoStory_UnknownOpen (.inr E.r_NoStory_UnknownOpen)) (tabn_cons E.X_TooGreat.n E.X_TooGreat.X (E.D_UnknownOpen.kit E.s_TooGreat_UnknownOpen (.inr E.r_TooGreat_UnknownOpen)) (tabn_cons E.X_NotComparable.n E.X_NotComparable.X (E.D_UnknownOpen.kit E.s_NotComparable_UnknownOpen (.inr E.r_NotComparable_UnknownOpen)) (tabn_cons E.X_NotLetIn.n E.X_NotLetIn.X (E.D_UnknownOpen.kit E.s_NotLetIn_UnknownOpen (.inr E.r_NotLetIn_UnknownOpen)) (tabn_cons E.X_NotWaiting.n E.X_NotWaiting.X (E.D_UnknownOpen.kit E.s_NotWaiting_UnknownOpen (.inr E.r_NotWaiting_UnknownOpen)) (tabn_cons E.X_Broken.n E.X_Broken.X (E.D_UnknownOpen.kit E.s_Broken_UnknownOpen (.inr E.r_Broken_UnknownOpen)) (tabn_cons E.X_UnknownOpen.n E.X_UnknownOpen.X (E.D_UnknownOpen.kit E.s_UnknownOpen_UnknownOpen (.inl rfl)) (tabn_cons E.X_Empty.n E.X_Empty.X (E.D_UnknownOpen.kit E.s_Empty_UnknownOpen (.inr E.r_Empty_UnknownOpen)) (tabn_cons E.X_Busy.n E.X_Busy.X (E.D_UnknownOpen.kit E.s_Busy_UnknownOpen (.inr E.r_Busy_UnknownOpen)) tabn_nil)))))))))))))
def tabis_Broken : List (Str × Bool) := [("InvalidProgram", false), ("TooMany", false), ("InvalidText", false), ("InvalidLine", false), ("NoStory", false), ("TooGreat", false), ("NotComparable", false), ("NotLetIn", false), ("NotWaiting", false), ("Broken", true), ("UnknownOpen", false), ("Empty", false), ("Busy", false)]
theorem ti_Broken (E : TB K mg) : TabN K (fun c v => PySem.W.kitOne K c (.ref E.e_Broken) = some v) tabis_Broken := (tabn_cons E.X_InvalidProgram.n E.X_InvalidProgram.X (E.D_Broken.kit E.s_InvalidProgram_Broken (.inr E.r_InvalidProgram_Broken)) (tabn_cons E.X_TooMany.n E.X_TooMany.X (E.D_Broken.kit E.s_TooMany_Broken (.inr E.r_TooMany_Broken)) (tabn_cons E.X_InvalidText.n E.X_InvalidText.X (E.D_Broken.kit E.s_InvalidText_Broken (.inr E.r_InvalidText_Broken)) (tabn_cons E.X_InvalidLine.n E.X_InvalidLine.X (E.D_Broken.kit E.s_InvalidLine_Broken (.inr E.r_InvalidLine_Broken)) (tabn_cons E.X_NoStory.n E.X_NoStory.X (E.D_Broken.kit E.s_NoStory_Broken (.inr E.r_NoStory_Broken)) (tabn_cons E.X_TooGreat.n E.X_TooGreat.X (E.D_Broken.kit E.s_TooGreat_Broken (.inr E.r_TooGreat_Broken)) (tabn_cons E.X_NotComparable.n E.X_NotComparable.X (E.D_Broken.kit E.s_NotComparable_Broken (.inr E.r_NotComparable_Broken)) (tabn_cons E.X_NotLetIn.n E.X_NotLetIn.X (E.D_Broken.kit E.s_NotLetIn_Broken (.inr E.r_NotLetIn_Broken)) (tabn_cons E.X_NotWaiting.n E.X_NotWaiting.X (E.D_Broken.kit E.s_NotWaiting_Broken (.inr E.r_NotWaiting_Broken)) (tabn_cons E.X_Broken.n E.X_Broken.X (E.D_Broken.kit E.s_Broken_Broken (.inl rfl)) (tabn_cons E.X_UnknownOpen.n E.X_UnknownOpen.X (E.D_Broken.kit E.s_UnknownOpen_Broken (.inr E.r_UnknownOpen_Broken)) (tabn_cons E.X_Empty.n E.X_Empty.X (E.D_Broken.kit E.s_Empty_Broken (.inr E.r_Empty_Broken)) (tabn_cons E.X_Busy.n E.X_Busy.X (E.D_Broken.kit E.s_Busy_Broken (.inr E.r_Busy_Broken)) tabn_nil)))))))))))))
def tabis_KeyError : List (Str × Bool) := [("InvalidProgram", false), ("TooMany", false), ("InvalidText", false), ("InvalidLine", false), ("NoStory", false), ("TooGreat", false), ("NotComparable", false), ("NotLetIn", false), ("NotWaiting", false), ("Broken", false), ("UnknownOpen", true), ("Empty", false), ("Busy", false)]
theorem ti_KeyError (E : TB K mg) : TabN K (fun c v => PySem.W.kitOne K c (.type "KeyError") = some v) tabis_KeyError := (tabn_cons E.X_InvalidProgram.n E.X_InvalidProgram.X (kit_typ E.s_InvalidProgram_KeyError) (tabn_cons E.X_TooMany.n E.X_TooMany.X (kit_typ E.s_TooMany_KeyError) (tabn_cons E.X_InvalidText.n E.X_InvalidText.X (kit_typ E.s_InvalidText_KeyError) (tabn_cons E.X_InvalidLine.n E.X_InvalidLine.X (kit_typ E.s_InvalidLine_KeyError) (tabn_cons E.X_NoStory.n E.X_NoStory.X (kit_typ E.s_NoStory_KeyError) (tabn_cons E.X_TooGreat.n E.X_TooGreat.X (kit_typ E.s_TooGreat_KeyError) (tabn_cons E.X_NotComparable.n E.X_NotComparable.X (kit_typ E.s_NotComparable_KeyError) (tabn_cons E.X_NotLetIn.n E.X_NotLetIn.X (kit_typ E.s_NotLetIn_KeyError) (tabn_cons E.X_NotWaiting.n E.X_NotWaiting.X (kit_typ E.s_NotWaiting_KeyError) (tabn_cons E.X_Broken.n E.X_Broken.X (kit_typ E.s_Broken_KeyError) (tabn_cons E.X_UnknownOpen.n E.X_UnknownOpen.X (kit_typ E.s_UnknownOpen_KeyError) (tabn_cons E.X_Empty.n E.X_Empty.X (kit_typ E.s_Empty_KeyError) (tabn_cons E.X_Busy.n E.X_Busy.X (kit_typ E.s_Busy_KeyError) tabn_nil)))))))))))))
def tabis_ValueError : List (Str × Bool) := [("InvalidProgram", true), ("TooMany", true), ("InvalidText", true), ("InvalidLine", true), ("NoStory", true), ("TooGreat", true), ("NotComparable", true), ("NotLetIn", true), ("NotWaiting", true), ("Broken", true), ("UnknownOpen", false), ("Empty", true), ("Busy", true)]
theorem ti_ValueError (E : TB K mg) : TabN K (fun c v => PySem.W.kitOne K c (.type "ValueError") = some v) tabis_ValueError := (tabn_cons E.X_InvalidProgram.n E.X_InvalidProgram.X (kit_typ E.s_InvalidProgram_ValueError) (tabn_cons E.X_TooMany.n E.X_TooMany.X (kit_typ E.s_TooMany_ValueError) (tabn_cons E.X_InvalidText.n E.X_InvalidText.X (kit_typ E.s_InvalidText_ValueError) (tabn_cons E.X_InvalidLine.n E.X_InvalidLine.X (kit_typ E.s_InvalidLine_ValueError) (tabn_cons E.X_NoStory.n E.X_NoStory.X (kit_typ E.s_NoStory_ValueError) (tabn_cons E.X_TooGreat.n E.X_TooGreat.X (kit_typ E.s_TooGreat_ValueError) (tabn_cons E.X_NotComparable.n E.X_NotComparable.X (kit_typ E.s_NotComparable_ValueError) (tabn_cons E.X_NotLetIn.n E.X_NotLetIn.X (kit_typ E.s_NotLetIn_ValueError) (tabn_cons E.X_NotWaiting.n E.X_NotWaiting.X (kit_typ E.s_NotWaiting_ValueError) (tabn_cons E.X_Broken.n E.X_Broken.X (kit_typ E.s_Broken_ValueError) (tabn_cons E.X_UnknownOpen.n E.X_UnknownOpen.X (kit_typ E.s_UnknownOpen_ValueError) (tabn_cons E.X_Empty.n E.X_Empty.X (kit_typ E.s_Empty_ValueError) (tabn_cons E.X_Busy.n E.X_Busy.X (kit_typ E.s_Busy_ValueError) tabn_nil)))))))))))))
def tabis_BreakError : List (Str × Bool) := [("InvalidProgram", true), ("TooMany", true), ("InvalidText", true), ("InvalidLine", true), ("NoStory", true), ("TooGreat", true), ("NotComparable", true), ("NotLetIn", true), ("NotWaiting", true), ("Broken", true), ("UnknownOpen", false), ("Empty", true), ("Busy", true)]
theorem ti_BreakError (E : TB K mg) : TabN K (fun c v => PySem.W.kitOne K c (.ref E.e_BreakError) = some v) tabis_BreakError := (tabn_cons E.X_InvalidProgram.n E.X_InvalidProgram.X (E.D_BreakError.kit E.s_InvalidProgram_BreakError (.inl rfl)) (tabn_cons E.X_TooMany.n E.X_TooMany.X (E.D_BreakError.kit E.s_TooMany_BreakError (.inl rfl)) (tabn_cons E.X_InvalidText.n E.X_InvalidText.X (E.D_BreakError.kit E.s_InvalidText_BreakError (.inl rfl)) (tabn_cons E.X_InvalidLine.n E.X_InvalidLine.X (E.D_BreakError.kit E.s_InvalidLine_BreakError (.inl rfl)) (tabn_cons E.X_NoStory.n E.X_NoStory.X (E.D_BreakError.kit E.s_NoStory_BreakError (.inl rfl)) (tabn_cons E.X_TooGreat.n E.X_TooGreat.X (E.D_BreakError.kit E.s_TooGreat_BreakError (.inl rfl)) (tabn_cons E.X_NotComparable.n E.X_NotComparable.X (E.D_BreakError.kit E.s_NotComparable_BreakError (.inl rfl)) (tabn_cons E.X_NotLetIn.n E.X_NotLetIn.X (E.D_BreakError.kit E.s_NotLetIn_BreakError (.inl rfl)) (tabn_cons E.X_NotWaiting.n E.X_NotWaiting.X (E.D_BreakError.kit E.s_NotWaiting_BreakError (.inl rfl)) (tabn_cons E.X_Broken.n E.X_Broken.X (E.D_BreakError.kit E.s_Broken_BreakError (.inl rfl)) (tabn_cons E.X_UnknownOpen.n E.X_UnknownOpen.X (E.D_BreakError.kit E.s_UnknownOpen_BreakError (.inr E.r_UnknownOpen_BreakError)) (tabn_cons E.X_Empty.n E.X_Empty.X (E.D_BreakError.kit E.s_Empty_BreakError (.inl rfl)) (tabn_cons E.X_Busy.n E.X_Busy.X (E.D_BreakError.kit E.s_Busy_BreakError (.inl rfl)) tabn_nil)))))))))))))
end
section
variable {cm : Str → Option Value} {P : Program} {w : World} {K : PySem.W.Frag} {mg : Str → Option Value} {base : Heap}
noncomputable def F__law_deck : FnF := runD 4 (sSeq (sPar2 2 3 (aCons (eB listF (aCons (eSl slF (eVar 0) oNone (oSome (eC (.int 63)))) aNil)) (aCons (eC (.int 69011)) aNil)))
    (sSeq (sFor (iSeq (eVar 2)) (gNameF 1) (sAsg (eOp modF (eOp addF (eOp addF (eOp mulF (eVar 3) (eC (.int 69621))) (eOp modF (eVar 1) (eC (.int 2147483587)))) (eC (.int 23))) (eC (.int 2147483629))) (gNameF 3)))
    (sRet (eDic (kCons (Sum.inr "cells") (eUn revF (eVar 2)) (kCons (Sum.inr "mixed") (eVar 3) (kCons (Sum.inr "drawn") (eC (.int 0)) kNil)))))))
theorem d__law_deck {k : Nat} (E : TB K mg) (hs : HasSys base)  : FnD cm P w K mg base (k + 1) "_law_deck" ["_law_script"] E.a__law_deck E.d__law_deck F__law_deck :=
  fnD_of E.F__law_deck.F sc__law_deck E.F__law_deck.m (E.F__law_deck.F.binds (ps := ["_law_script"]) fun _ _ _ _ _ _ us hl => match us, hl with | [_], _ => rfl) hs fun cdv A outer s H X0 b => (dss_cons (ds_par2 (i := 2) (j := 3) b.calm b.nd (da_cons (de_callTy cs_list rfl E.n_list (by decide +kernel) (da_cons (de_slice ss_sl (de_var 0) do_none (do_some de_int)) da_nil)) (da_cons de_int da_nil)))
    (dss_cons (ds_for b.po b.calm (di_seq (de_var 2)) (dg_name (i := 1) b.nd) (dss_one (ds_set (i := 3) b.nd (de_op os_mod (de_op os_add (de_op os_add (de_op os_mul (de_var 3) de_int) (de_op os_mod (de_var 1) de_int)) de_int) de_int))))
    (dss_one (ds_ret (de_dic (dps_str (de_rev (de_var 2)) (dps_str (de_var 3) (dps_str de_int dps_nil))))))))
noncomputable def F__law_draw : FnF := runD 5 (sSeq (sSub (eVar 0) (eC (.str "drawn")) (eOp addF (eOp ixF (eVar 0) (eC (.str "drawn"))) (eC (.int 1))))
    (sSeq (sPar2 3 4 (aCons (eOp ixF (eVar 0) (eC (.str "drawn"))) (aCons (eOp ixF (eVar 0) (eC (.str "mixed"))) aNil)))
    (sSeq (sIf (tVal (eOp (opB neF) (eOp ixF (eVar 0) (eC (.str "cells"))) (eB mkLst aNil))) (sSeq (sAsg (eMt "list" popF (eOp ixF (eVar 0) (eC (.str "cells"))) aNil) (gNameF 4))
    (sSeq (sIf (tVal (eOp (cmpI fun i j => decide (j ≤ i)) (eVar 4) (eOp powF (eC (.int 10)) (eC (.int 18))))) (sSeq (sExpr (eMt "list" appF (eOp ixF (eVar 0) (eC (.str "cells"))) (aCons (eOp fdivF (eVar 4) (eVar 1)) aNil)))
    (sRet (eOp modF (eVar 4) (eVar 1)))) sNil)
    (sAsg (eOp addF (eVar 4) (eOp ixF (eVar 0) (eC (.str "mixed")))) (gNameF 4)))) sNil)
    (sSeq (sAsg (eOp modF (eOp mulF (eOp addF (eOp addF (eOp modF (eVar 4) (eC (.int 2147483629))) (eOp mulF (eOp mulF (eC (.int 65563)) (eVar 3)) (eVar 3))) (eC (.int 13))) (eC (.int 40692))) (eC (.int 2147483647))) (gNameF 2))
    (sSeq (sAsg (eOp modF (eOp addF (eOp addF (eOp mulF (eVar 2) (eVar 2)) (eOp mulF (eC (.int 69621)) (eVar 3))) (eC (.int 23))) (eC (.int 2147483587))) (gNameF 2))
    (sRet (eOp modF (eOp fdivF (eOp modF (eOp mulF (eVar 2) (eC (.int 48271))) (eC (.int 2147483563))) (eC (.int 64))) (eVar 1))))))))
theorem d__law_draw {k : Nat} (E : TB K mg) (hs : HasSys base)  : FnD cm P w K mg base (k + 1) "_law_draw" ["_law_deck_here", "_law_ways"] E.a__law_draw E.d__law_draw F__law_draw :=
  fnD_of E.F__law_draw.F sc__law_draw E.F__law_draw.m (E.F__law_draw.F.binds (ps := ["_law_deck_here", "_law_ways"]) fun _ _ _ _ _ _ us hl => match us, hl with | [_, _], _ => rfl) hs fun cdv A outer s H X0 b => (dss_cons (ds_sub b.hu (de_var 0) de_str (de_op os_add (de_ix (is_ix b.hu) (de_var 0) de_str) de_int))
    (dss_cons (ds_par2 (i := 3) (j := 4) b.calm b.nd (da_cons (de_ix (is_ix b.hu) (de_var 0) de_str) (da_cons (de_ix (is_ix b.hu) (de_var 0) de_str) da_nil)))
    (dss_cons (ds_if (dt_cmp (os_ne b.h64) (de_ix (is_ix b.hu) (de_var 0) de_str) (de_lst da_nil) (by rfl)) (dss_cons (ds_set (i := 4) b.nd (de_m0 PySem.F.plainAttrs_list PySem.F.slot_list_pop PySem.F.type_list_pop ms_pop (de_ix (is_ix b.hu) (de_var 0) de_str)))
    (dss_cons (ds_if (dt_cmp os_ge (de_var 4) (de_op os_pow de_int de_int) (by rfl)) (dss_cons (ds_expr (de_m PySem.F.plainAttrs_list PySem.F.slot_list_append PySem.F.type_list_append ms_append (de_ix (is_ix b.hu) (de_var 0) de_str) (da_cons (de_op os_fdiv (de_var 4) (de_var 1)) da_nil)))
    (dss_one (ds_ret (de_op os_mod (de_var 4) (de_var 1))))) dss_nil)
    (dss_one (ds_set (i := 4) b.nd (de_op os_add (de_var 4) (de_ix (is_ix b.hu) (de_var 0) de_str)))))) dss_nil)
    (dss_cons (ds_set (i := 2) b.nd (de_op os_mod (de_op os_mul (de_op os_add (de_op os_add (de_op os_mod (de_var 4) de_int) (de_op os_mul (de_op os_mul de_int (de_var 3)) (de_var 3))) de_int) de_int) de_int))
    (dss_cons (ds_set (i := 2) b.nd (de_op os_mod (de_op os_add (de_op os_add (de_op os_mul (de_var 2) (de_var 2)) (de_op os_mul de_int (de_var 3))) de_int) de_int))
    (dss_one (ds_ret (de_op os_mod (de_op os_fdiv (de_op os_mod (de_op os_mul (de_var 2) de_int) de_int) de_int) (de_var 1)))))))))
noncomputable def F__law_made_further : FnF := runD 4 (sSeq (sIf (tVal (eOp (opB eqF) (eVar 0) (eC (.str "unlike")))) (sSeq (sAsg (eIf (tVal (eVar 2)) (eUn (errF "NotComparable" "name") (eVar 1)) (eUn (errF "NotComparable" "name") (eVar 1))) (gNameF 3))
    (sRet (eB mkTup (aCons (eVar 3) (aCons (eUn (eflF tabfl_name "name") (eVar 3)) aNil))))) sNil)
    (sSeq (sIf (tVal (eOp (opB eqF) (eVar 0) (eC (.str "out")))) (sSeq (sAsg (eIf (tVal (eVar 2)) (eUn (errF "NotLetIn" "request") (eVar 1)) (eUn (errF "NotLetIn" "request") (eVar 1))) (gNameF 3))
    (sRet (eB mkTup (aCons (eVar 3) (aCons (eUn (eflF tabfl_request "request") (eVar 3)) aNil))))) sNil)
    (sSeq (sIf (tVal (eOp (opB eqF) (eVar 0) (eC (.str "waiting")))) (sSeq (sAsg (eIf (tVal (eVar 2)) (eUn (errF "NotWaiting" "number") (eVar 1)) (eUn (errF "NotWaiting" "number") (eVar 1))) (gNameF 3))
    (sRet (eB mkTup (aCons (eVar 3) (aCons (eUn (eflF tabfl_number "number") (eVar 3)) aNil))))) sNil)
    (sSeq (sIf (tVal (eOp (opB eqF) (eVar 0) (eC (.str "broken")))) (sSeq (sAsg (eIf (tVal (eVar 2)) (eUn (errF "Broken" "path") (eVar 1)) (eUn (errF "Broken" "path") (eVar 1))) (gNameF 3))
    (sRet (eB mkTup (aCons (eVar 3) (aCons (eUn (eflF tabfl_path "path") (eVar 3)) aNil))))) sNil)
    (sSeq (sIf (tVal (eOp (opB eqF) (eVar 0) (eC (.str "open")))) (sSeq (sAsg (eIf (tVal (eVar 2)) (eUn (errF "UnknownOpen" "place") (eVar 1)) (eUn (errF "UnknownOpen" "place") (eVar 1))) (gNameF 3))
    (sRet (eB mkTup (aCons (eVar 3) (aCons (eUn (eflF tabfl_place "place") (eVar 3)) aNil))))) sNil)
    (sRet (eB mkTup (aCons (eIf (tVal (eOp (opB eqF) (eVar 0) (eC (.str "empty")))) (eB (errF0 "Empty") aNil) (eB (errF0 "Busy") aNil)) (aCons (eVar 1) aNil)))))))))
theorem d__law_made_further {k : Nat} (E : TB K mg) (hs : HasSys base) (hk : 2 ≤ k)  : FnD cm P w K mg base (k + 1) "_law_made_further" ["_law_word", "_law_it", "_law_by_name"] E.a__law_made_further E.d__law_made_further F__law_made_further :=
  fnD_of E.F__law_made_further.F sc__law_made_further E.F__law_made_further.m (E.F__law_made_further.F.binds (ps := ["_law_word", "_law_it", "_law_by_name"]) fun _ _ _ _ _ _ us hl => match us, hl with | [_, _, _], _ => rfl) hs fun cdv A outer s H X0 b => (dss_cons (ds_if (dt_cmp (os_eq b.h64) (de_var 0) de_str (by rfl)) (dss_cons (ds_set (i := 3) b.nd (de_if (dt_val (de_var 2)) (de_errK (ev_NotComparable E) (b.hr.mono hk) (de_var 1)) (de_err (args := []) (ev_NotComparable E) (b.hr.mono hk) (de_var 1))))
    (dss_one (ds_ret (de_tup (da_cons (de_var 3) (da_cons (de_efl (tf_name E) (de_var 3)) da_nil)))))) dss_nil)
    (dss_cons (ds_if (dt_cmp (os_eq b.h64) (de_var 0) de_str (by rfl)) (dss_cons (ds_set (i := 3) b.nd (de_if (dt_val (de_var 2)) (de_errK (ev_NotLetIn E) (b.hr.mono hk) (de_var 1)) (de_err (args := []) (ev_NotLetIn E) (b.hr.mono hk) (de_var 1))))
    (dss_one (ds_ret (de_tup (da_cons (de_var 3) (da_cons (de_efl (tf_request E) (de_var 3)) da_nil)))))) dss_nil)
    (dss_cons (ds_if (dt_cmp (os_eq b.h64) (de_var 0) de_str (by rfl)) (dss_cons (ds_set (i := 3) b.nd (de_if (dt_val (de_var 2)) (de_errK (ev_NotWaiting E) (b.hr.mono hk) (de_var 1)) (de_err (args := []) (ev_NotWaiting E) (b.hr.mono hk) (de_var 1))))
    (dss_one (ds_ret (de_tup (da_cons (de_var 3) (da_cons (de_efl (tf_number E) (de_var 3)) da_nil)))))) dss_nil)
    (dss_cons (ds_if (dt_cmp (os_eq b.h64) (de_var 0) de_str (by rfl)) (dss_cons (ds_set (i := 3) b.nd (de_if (dt_val (de_var 2)) (de_errK (ev_Broken E) (b.hr.mono hk) (de_var 1)) (de_err (args := []) (ev_Broken E) (b.hr.mono hk) (de_var 1))))
    (dss_one (ds_ret (de_tup (da_cons (de_var 3) (da_cons (de_efl (tf_path E) (de_var 3)) da_nil)))))) dss_nil)
    (dss_cons (ds_if (dt_cmp (os_eq b.h64) (de_var 0) de_str (by rfl)) (dss_cons (ds_set (i := 3) b.nd (de_if (dt_val (de_var 2)) (de_errK (ev_UnknownOpen E) (b.hr.mono hk) (de_var 1)) (de_err (args := []) (ev_UnknownOpen E) (b.hr.mono hk) (de_var 1))))
    (dss_one (ds_ret (de_tup (da_cons (de_var 3) (da_cons (de_efl (tf_place E) (de_var 3)) da_nil)))))) dss_nil)
    (dss_one (ds_ret (de_tup (da_cons (de_if (dt_cmp (os_eq b.h64) (de_var 0) de_str (by rfl)) (de_err0 (ev_Empty E) (b.hr.mono hk)) (de_err0 (ev_Busy E) (b.hr.mono hk))) (da_cons (de_var 1) da_nil))))))))))
noncomputable def F__law_kinds : FnF := runD 2 (sSeq (sAsg (eB mkLst (aCons (eUn (eisF tabis_InvalidProgram) (eVar 0)) (aCons (eUn (eisF tabis_TooMany) (eVar 0)) (aCons (eUn (eisF tabis_InvalidText) (eVar 0)) aNil)))) (gNameF 1))
    (sSeq (sAsg (eOp addF (eVar 1) (eB mkLst (aCons (eUn (eisF tabis_InvalidLine) (eVar 0)) (aCons (eUn (eisF tabis_NoStory) (eVar 0)) (aCons (eUn (eisF tabis_TooGreat) (eVar 0)) aNil))))) (gNameF 1))
    (sSeq (sAsg (eOp addF (eVar 1) (eB mkLst (aCons (eUn (eisF tabis_NotComparable) (eVar 0)) (aCons (eUn (eisF tabis_NotLetIn) (eVar 0)) (aCons (eUn (eisF tabis_NotWaiting) (eVar 0)) aNil))))) (gNameF 1))
    (sRet (eOp addF (eVar 1) (eB mkLst (aCons (eUn (eisF tabis_Broken) (eVar 0)) (aCons (eUn (eisF tabis_UnknownOpen) (eVar 0)) (aCons (eUn (eisF tabis_Empty) (eVar 0)) (aCons (eUn (eisF tabis_Busy) (eVar 0)) aNil))))))))))
theorem d__law_kinds {k : Nat} (E : TB K mg) (hs : HasSys base)  : FnD cm P w K mg base (k + 1) "_law_kinds" ["_law_e"] E.a__law_kinds E.d__law_kinds F__law_kinds :=
  fnD_of E.F__law_kinds.F sc__law_kinds E.F__law_kinds.m (E.F__law_kinds.F.binds (ps := ["_law_e"]) fun _ _ _ _ _ _ us hl => match us, hl with | [_], _ => rfl) hs fun cdv A outer s H X0 b => (dss_cons (ds_set (i := 1) b.nd (de_lst (da_cons (de_eis (ti_InvalidProgram E) (de_var 0) E.n_isinstance E.D_InvalidProgram.cln) (da_cons (de_eis (ti_TooMany E) (de_var 0) E.n_isinstance E.D_TooMany.cln) (da_cons (de_eis (ti_InvalidText E) (de_var 0) E.n_isinstance E.D_InvalidText.cln) da_nil)))))
    (dss_cons (ds_set (i := 1) b.nd (de_op os_add (de_var 1) (de_lst (da_cons (de_eis (ti_InvalidLine E) (de_var 0) E.n_isinstance E.D_InvalidLine.cln) (da_cons (de_eis (ti_NoStory E) (de_var 0) E.n_isinstance E.D_NoStory.cln) (da_cons (de_eis (ti_TooGreat E) (de_var 0) E.n_isinstance E.D_TooGreat.cln) da_nil))))))
    (dss_cons (ds_set (i := 1) b.nd (de_op os_add (de_var 1) (de_lst (da_cons (de_eis (ti_NotComparable E) (de_var 0) E.n_isinstance E.D_NotComparable.cln) (da_cons (de_eis (ti_NotLetIn E) (de_var 0) E.n_isinstance E.D_NotLetIn.cln) (da_cons (de_eis (ti_NotWaiting E) (de_var 0) E.n_isinstance E.D_NotWaiting.cln) da_nil))))))
    (dss_one (ds_ret (de_op os_add (de_var 1) (de_lst (da_cons (de_eis (ti_Broken E) (de_var 0) E.n_isinstance E.D_Broken.cln) (da_cons (de_eis (ti_UnknownOpen E) (de_var 0) E.n_isinstance E.D_UnknownOpen.cln) (da_cons (de_eis (ti_Empty E) (de_var 0) E.n_isinstance E.D_Empty.cln) (da_cons (de_eis (ti_Busy E) (de_var 0) E.n_isinstance E.D_Busy.cln) da_nil)))))))))))
noncomputable def F__law_bases : FnF := runD 1 (sRet (eB mkLst (aCons (eUn (eisF tabis_BreakError) (eVar 0)) (aCons (eUn (eisF tabis_ValueError) (eVar 0)) (aCons (eUn (eisF tabis_KeyError) (eVar 0)) aNil)))))
theorem d__law_bases {k : Nat} (E : TB K mg) (hs : HasSys base)  : FnD cm P w K mg base (k + 1) "_law_bases" ["_law_e"] E.a__law_bases E.d__law_bases F__law_bases :=
  fnD_of E.F__law_bases.F sc__law_bases E.F__law_bases.m (E.F__law_bases.F.binds (ps := ["_law_e"]) fun _ _ _ _ _ _ us hl => match us, hl with | [_], _ => rfl) hs fun cdv A outer s H X0 b => (dss_one (ds_ret (de_lst (da_cons (de_eis (ti_BreakError E) (de_var 0) E.n_isinstance E.D_BreakError.cln) (da_cons (de_eis (ti_ValueError E) (de_var 0) E.n_isinstance (.inr ⟨_, rfl, E.n_ValueError, by decide +kernel, by decide⟩)) (da_cons (de_eis (ti_KeyError E) (de_var 0) E.n_isinstance (.inr ⟨_, rfl, E.n_KeyError, by decide +kernel, by decide⟩)) da_nil))))))

noncomputable def F__law_value : Nat → FnF
  | 0 => fun _ _ => .bad
  | n + 1 => runD 5 (sSeq (sAsg (eCall F__law_draw (aCons (eVar 0) (aCons (eIf (tVal (eOp (cmpI fun i j => decide (j < i)) (eVar 1) (eC (.int 0)))) (eC (.int 12)) (eC (.int 8))) aNil))) (gNameF 2))
    (sSeq (sIf (tVal (eOp (cmpI fun i j => decide (i < j)) (eVar 2) (eC (.int 8)))) (sRet (eOp ixF (eB mkLst (aCons (eC (.non)) (aCons (eC (.bl true)) (aCons (eC (.bl false)) (aCons (eC (.int 0)) (aCons (eOp subF (eC (.int 0)) (eCall F__law_draw (aCons (eVar 0) (aCons (eOp powF (eC (.int 10)) (eC (.int 9))) aNil)))) (aCons (eOp powF (eC (.int 10)) (eC (.int 39))) (aCons (eC (.str "")) (aCons (eC (.str "add")) aNil))))))))) (eVar 2))) sNil)
    (sSeq (sAsg (eLC (iRange1 (aCons (eCall F__law_draw (aCons (eVar 0) (aCons (eC (.int 4)) aNil))) aNil)) [4] (gNameF 4) tYesF (eCall (F__law_value n) (aCons (eVar 0) (aCons (eOp subF (eVar 1) (eC (.int 1))) aNil)))) (gNameF 3))
    (sRet (eOp ixF (eB mkLst (aCons (eB tupleF (aCons (eVar 3) aNil)) (aCons (eVar 3) (aCons (eB mkTup (aCons (eC (.str "add")) (aCons (eB mkTup (aCons (eC (.int 0)) (aCons (eC (.int 1)) aNil))) aNil))) (aCons (eDic (kCons (Sum.inr "a") (eVar 3) kNil)) aNil))))) (eOp subF (eVar 2) (eC (.int 8))))))))
theorem d__law_value {k : Nat} (E : TB K mg) (hs : HasSys base) (G__law_draw : FnD cm P w K mg base k "_law_draw" ["_law_deck_here", "_law_ways"] E.a__law_draw E.d__law_draw F__law_draw) : ∀ n : Nat, FnD cm P w K mg base (k + n) "_law_value" ["_law_deck_here", "_law_deep"] E.a__law_value E.d__law_value (F__law_value n)
  | 0 => fnD_bad E.F__law_value.F E.F__law_value.m (E.F__law_value.F.binds (ps := ["_law_deck_here", "_law_deep"]) fun _ _ _ _ _ _ us hl => match us, hl with | [_, _], _ => rfl)
  | n + 1 => by
    have ih := d__law_value (k := k) E hs G__law_draw n
    have G__law_value := ih
    have G__law_draw := G__law_draw.mono (Nat.le_add_right k n)
    exact fnD_of E.F__law_value.F sc__law_value E.F__law_value.m (E.F__law_value.F.binds (ps := ["_law_deck_here", "_law_deep"]) fun _ _ _ _ _ _ us hl => match us, hl with | [_, _], _ => rfl) hs fun cdv A outer s H X0 b => (dss_cons (ds_set (i := 2) b.nd (de_call G__law_draw b.tk b.gd b.hr (alen_cons (alen_cons alen_nil)) (da_cons (de_var 0) (da_cons (de_if (dt_cmp os_gt (de_var 1) de_int (by rfl)) de_int de_int) da_nil))))
    (dss_cons (ds_if (dt_cmp os_lt (de_var 2) de_int (by rfl)) (dss_one (ds_ret (de_ix (is_ix b.hu) (de_lst (da_cons de_non (da_cons de_bl (da_cons de_bl (da_cons de_int (da_cons (de_op os_sub de_int (de_call G__law_draw b.tk b.gd b.hr (alen_cons (alen_cons alen_nil)) (da_cons (de_var 0) (da_cons (de_op os_pow de_int de_int) da_nil)))) (da_cons (de_op os_pow de_int de_int) (da_cons de_str (da_cons de_str da_nil))))))))) (de_var 2)))) dss_nil)
    (dss_cons (ds_setLc (i := 3) b.calm b.nd (di_range1 rfl E.n_range (da_cons (de_call G__law_draw b.tk b.gd b.hr (alen_cons (alen_cons alen_nil)) (da_cons (de_var 0) (da_cons de_int da_nil))) da_nil)) (blkOk_by (own := [("_law_k", 4)]) (N := ["_law_deck_here", "_law_deep", "_law_way", "_law_some", "_law_k"]) (sc := defScope s__law_value) (by decide +kernel)) (fun _ _ _ _ _ => (dg_name (i := 4) b.nd)) (fun _ _ _ _ _ => dts_nil) (fun _ _ _ _ _ => (de_call G__law_value takes0 b.gd b.hr (alen_cons (alen_cons alen_nil)) (da_cons (de_var 0) (da_cons (de_op os_sub (de_var 1) de_int) da_nil)))))
    (dss_one (ds_ret (de_ix (is_ix b.hu) (de_lst (da_cons (de_callTy cs_tuple rfl E.n_tuple (by decide +kernel) (da_cons (de_var 3) da_nil)) (da_cons (de_var 3) (da_cons (de_tup (da_cons de_str (da_cons (de_tup (da_cons de_int (da_cons de_int da_nil))) da_nil))) (da_cons (de_dic (dps_str (de_var 3) dps_nil)) da_nil))))) (de_op os_sub (de_var 2) de_int)))))))
noncomputable def F__law_made : FnF := runD 4 (sSeq (sIf (tVal (eOp (opB eqF) (eVar 0) (eC (.str "program")))) (sSeq (sAsg (eIf (tVal (eVar 2)) (eUn (errF "InvalidProgram" "part") (eVar 1)) (eUn (errF "InvalidProgram" "part") (eVar 1))) (gNameF 3))
    (sRet (eB mkTup (aCons (eVar 3) (aCons (eUn (eflF tabfl_part "part") (eVar 3)) aNil))))) sNil)
    (sSeq (sIf (tVal (eOp (opB eqF) (eVar 0) (eC (.str "many")))) (sSeq (sAsg (eIf (tVal (eVar 2)) (eUn (errF "TooMany" "what") (eVar 1)) (eUn (errF "TooMany" "what") (eVar 1))) (gNameF 3))
    (sRet (eB mkTup (aCons (eVar 3) (aCons (eUn (eflF tabfl_what "what") (eVar 3)) aNil))))) sNil)
    (sSeq (sIf (tVal (eOp (opB eqF) (eVar 0) (eC (.str "text")))) (sSeq (sAsg (eIf (tVal (eVar 2)) (eUn (errF "InvalidText" "line") (eVar 1)) (eUn (errF "InvalidText" "line") (eVar 1))) (gNameF 3))
    (sRet (eB mkTup (aCons (eVar 3) (aCons (eUn (eflF tabfl_line "line") (eVar 3)) aNil))))) sNil)
    (sSeq (sIf (tVal (eOp (opB eqF) (eVar 0) (eC (.str "line")))) (sSeq (sAsg (eIf (tVal (eVar 2)) (eUn (errF "InvalidLine" "line") (eVar 1)) (eUn (errF "InvalidLine" "line") (eVar 1))) (gNameF 3))
    (sRet (eB mkTup (aCons (eVar 3) (aCons (eUn (eflF tabfl_line "line") (eVar 3)) aNil))))) sNil)
    (sSeq (sIf (tVal (eOp (opB eqF) (eVar 0) (eC (.str "story")))) (sSeq (sAsg (eIf (tVal (eVar 2)) (eUn (errF "NoStory" "path") (eVar 1)) (eUn (errF "NoStory" "path") (eVar 1))) (gNameF 3))
    (sRet (eB mkTup (aCons (eVar 3) (aCons (eUn (eflF tabfl_path "path") (eVar 3)) aNil))))) sNil)
    (sSeq (sIf (tVal (eOp (opB eqF) (eVar 0) (eC (.str "great")))) (sSeq (sAsg (eIf (tVal (eVar 2)) (eUn (errF "TooGreat" "limit") (eVar 1)) (eUn (errF "TooGreat" "limit") (eVar 1))) (gNameF 3))
    (sRet (eB mkTup (aCons (eVar 3) (aCons (eUn (eflF tabfl_limit "limit") (eVar 3)) aNil))))) sNil)
    (sRet (eCall F__law_made_further (aCons (eVar 0) (aCons (eVar 1) (aCons (eVar 2) aNil)))))))))))
theorem d__law_made {k : Nat} (E : TB K mg) (hs : HasSys base) (hk : 2 ≤ k) (G__law_made_further : FnD cm P w K mg base k "_law_made_further" ["_law_word", "_law_it", "_law_by_name"] E.a__law_made_further E.d__law_made_further F__law_made_further) : FnD cm P w K mg base (k + 1) "_law_made" ["_law_word", "_law_it", "_law_by_name"] E.a__law_made E.d__law_made F__law_made :=
  fnD_of E.F__law_made.F sc__law_made E.F__law_made.m (E.F__law_made.F.binds (ps := ["_law_word", "_law_it", "_law_by_name"]) fun _ _ _ _ _ _ us hl => match us, hl with | [_, _, _], _ => rfl) hs fun cdv A outer s H X0 b => (dss_cons (ds_if (dt_cmp (os_eq b.h64) (de_var 0) de_str (by rfl)) (dss_cons (ds_set (i := 3) b.nd (de_if (dt_val (de_var 2)) (de_errK (ev_InvalidProgram E) (b.hr.mono hk) (de_var 1)) (de_err (args := []) (ev_InvalidProgram E) (b.hr.mono hk) (de_var 1))))
    (dss_one (ds_ret (de_tup (da_cons (de_var 3) (da_cons (de_efl (tf_part E) (de_var 3)) da_nil)))))) dss_nil)
    (dss_cons (ds_if (dt_cmp (os_eq b.h64) (de_var 0) de_str (by rfl)) (dss_cons (ds_set (i := 3) b.nd (de_if (dt_val (de_var 2)) (de_errK (ev_TooMany E) (b.hr.mono hk) (de_var 1)) (de_err (args := []) (ev_TooMany E) (b.hr.mono hk) (de_var 1))))
    (dss_one (ds_ret (de_tup (da_cons (de_var 3) (da_cons (de_efl (tf_what E) (de_var 3)) da_nil)))))) dss_nil)
    (dss_cons (ds_if (dt_cmp (os_eq b.h64) (de_var 0) de_str (by rfl)) (dss_cons (ds_set (i := 3) b.nd (de_if (dt_val (de_var 2)) (de_errK (ev_InvalidText E) (b.hr.mono hk) (de_var 1)) (de_err (args := []) (ev_InvalidText E) (b.hr.mono hk) (de_var 1))))
    (dss_one (ds_ret (de_tup (da_cons (de_var 3) (da_cons (de_efl (tf_line E) (de_var 3)) da_nil)))))) dss_nil)
    (dss_cons (ds_if (dt_cmp (os_eq b.h64) (de_var 0) de_str (by rfl)) (dss_cons (ds_set (i := 3) b.nd (de_if (dt_val (de_var 2)) (de_errK (ev_InvalidLine E) (b.hr.mono hk) (de_var 1)) (de_err (args := []) (ev_InvalidLine E) (b.hr.mono hk) (de_var 1))))
    (dss_one (ds_ret (de_tup (da_cons (de_var 3) (da_cons (de_efl (tf_line E) (de_var 3)) da_nil)))))) dss_nil)
    (dss_cons (ds_if (dt_cmp (os_eq b.h64) (de_var 0) de_str (by rfl)) (dss_cons (ds_set (i := 3) b.nd (de_if (dt_val (de_var 2)) (de_errK (ev_NoStory E) (b.hr.mono hk) (de_var 1)) (de_err (args := []) (ev_NoStory E) (b.hr.mono hk) (de_var 1))))
    (dss_one (ds_ret (de_tup (da_cons (de_var 3) (da_cons (de_efl (tf_path E) (de_var 3)) da_nil)))))) dss_nil)
    (dss_cons (ds_if (dt_cmp (os_eq b.h64) (de_var 0) de_str (by rfl)) (dss_cons (ds_set (i := 3) b.nd (de_if (dt_val (de_var 2)) (de_errK (ev_TooGreat E) (b.hr.mono hk) (de_var 1)) (de_err (args := []) (ev_TooGreat E) (b.hr.mono hk) (de_var 1))))
    (dss_one (ds_ret (de_tup (da_cons (de_var 3) (da_cons (de_efl (tf_limit E) (de_var 3)) da_nil)))))) dss_nil)
    (dss_one (ds_ret (de_call G__law_made_further b.tk b.gd b.hr (alen_cons (alen_cons (alen_cons alen_nil))) (da_cons (de_var 0) (da_cons (de_var 1) (da_cons (de_var 2) da_nil))))))))))))
noncomputable def F_law : FnF := runD 13 (sSeq (sAsg (eCall F__law_deck (aCons (eVar 0) aNil)) (gNameF 1))
    (sSeq (sAsg (eB mkLst (aCons (eC (.str "program")) (aCons (eC (.str "many")) (aCons (eC (.str "text")) (aCons (eC (.str "line")) (aCons (eC (.str "story")) (aCons (eC (.str "great")) (aCons (eC (.str "unlike")) (aCons (eC (.str "out")) (aCons (eC (.str "waiting")) (aCons (eC (.str "broken")) (aCons (eC (.str "open")) (aCons (eC (.str "empty")) aNil))))))))))))) (gNameF 2))
    (sSeq (sFor (iRange1 (aCons (eC (.int 3)) aNil)) (gNameF 3) (sFor (iEnumF (aCons (eOp addF (eVar 2) (eB mkLst (aCons (eC (.str "busy")) aNil))) aNil)) (gTupF 2 (gConsF (gNameF 4) (gConsF (gNameF 5) gNilF))) (sSeq (sAsg (eCall (F__law_value 60) (aCons (eVar 1) (aCons (eC (.int 3)) aNil))) (gNameF 6))
    (sSeq (sPar2 8 9 (aCons (eB reprF (aCons (eVar 6) aNil)) (aCons (eB mkLst (aCons (eOp (opB neF) (eVar 5) (eC (.str "open"))) (aCons (eOp (opB neF) (eVar 5) (eC (.str "open"))) (aCons (eOp (opB eqF) (eVar 5) (eC (.str "open"))) aNil)))) aNil)))
    (sSeq (sFor (iSeq (eB mkTup (aCons (eC (.bl false)) (aCons (eC (.bl true)) aNil)))) (gNameF 7) (sSeq (sAsg (eCall F__law_made (aCons (eVar 5) (aCons (eVar 6) (aCons (eVar 7) aNil)))) (gTupF 2 (gConsF (gNameF 10) (gConsF (gNameF 11) gNilF))))
    (sIf (tOrF (tVal (eOp (opB neF) (eB reprF (aCons (eVar 11) aNil)) (eVar 8))) (tOrF (tVal (eOp (opB neF) (eCall F__law_kinds (aCons (eVar 10) aNil)) (eLC (iRange1 (aCons (eC (.int 13)) aNil)) [12] (gNameF 12) tYesF (eOp (opB eqF) (eVar 12) (eVar 4))))) (tVal (eOp (opB neF) (eCall F__law_bases (aCons (eVar 10) aNil)) (eVar 9))))) (sRet (eC (.bl false))) sNil)))
    (sIf (tVal (eOp (opB neF) (eB reprF (aCons (eVar 6) aNil)) (eVar 8))) (sRet (eC (.bl false))) sNil))))))
    (sRet (eC (.bl true))))))
theorem d_law {k : Nat} (E : TB K mg) (hs : HasSys base) (G__law_deck : FnD cm P w K mg base k "_law_deck" ["_law_script"] E.a__law_deck E.d__law_deck F__law_deck) (G__law_value : FnD cm P w K mg base k "_law_value" ["_law_deck_here", "_law_deep"] E.a__law_value E.d__law_value (F__law_value 60)) (G__law_made : FnD cm P w K mg base k "_law_made" ["_law_word", "_law_it", "_law_by_name"] E.a__law_made E.d__law_made F__law_made) (G__law_bases : FnD cm P w K mg base k "_law_bases" ["_law_e"] E.a__law_bases E.d__law_bases F__law_bases) (G__law_kinds : FnD cm P w K mg base k "_law_kinds" ["_law_e"] E.a__law_kinds E.d__law_kinds F__law_kinds) : FnD cm P w K mg base (k + 1) "law" ["_law_script"] E.a_law E.d_law F_law :=
  fnD_of E.F_law.F sc_law E.F_law.m (E.F_law.F.binds (ps := ["_law_script"]) fun _ _ _ _ _ _ us hl => match us, hl with | [_], _ => rfl) hs fun cdv A outer s H X0 b => (dss_cons (ds_set (i := 1) b.nd (de_call G__law_deck b.tk b.gd b.hr (alen_cons alen_nil) (da_cons (de_var 0) da_nil)))
    (dss_cons (ds_set (i := 2) b.nd (de_lst (da_cons de_str (da_cons de_str (da_cons de_str (da_cons de_str (da_cons de_str (da_cons de_str (da_cons de_str (da_cons de_str (da_cons de_str (da_cons de_str (da_cons de_str (da_cons de_str da_nil))))))))))))))
    (dss_cons (ds_for b.po b.calm (di_range1 rfl E.n_range (da_cons de_int da_nil)) (dg_name (i := 3) b.nd) (dss_one (ds_for b.po b.calm (di_enum rfl E.n_enumerate (da_cons (de_op os_add (de_var 2) (de_lst (da_cons de_str da_nil))) da_nil)) (dg_tup b.calm (dgs_cons (dg_name (i := 4) b.nd) (dgs_cons (dg_name (i := 5) b.nd) dgs_nil))) (dss_cons (ds_set (i := 6) b.nd (de_call G__law_value b.tk b.gd b.hr (alen_cons (alen_cons alen_nil)) (da_cons (de_var 1) (da_cons de_int da_nil))))
    (dss_cons (ds_par2 (i := 8) (j := 9) b.calm b.nd (da_cons (de_callB (cs_repr b.sys b.h160 b.gd) rfl E.n_repr (by decide +kernel) (da_cons (de_var 6) da_nil)) (da_cons (de_lst (da_cons (de_cmp (os_ne b.h64) (de_var 5) de_str (by rfl)) (da_cons (de_cmp (os_ne b.h64) (de_var 5) de_str (by rfl)) (da_cons (de_cmp (os_eq b.h64) (de_var 5) de_str (by rfl)) da_nil)))) da_nil)))
    (dss_cons (ds_for b.po b.calm (di_seq (de_tup (da_cons de_bl (da_cons de_bl da_nil)))) (dg_name (i := 7) b.nd) (dss_cons (ds_asg (de_call G__law_made b.tk b.gd b.hr (alen_cons (alen_cons (alen_cons alen_nil))) (da_cons (de_var 5) (da_cons (de_var 6) (da_cons (de_var 7) da_nil)))) (dg_tup b.calm (dgs_cons (dg_name (i := 10) b.nd) (dgs_cons (dg_name (i := 11) b.nd) dgs_nil))))
    (dss_one (ds_if (dt_w (dw_or (dt_cmp (os_ne b.h64) (de_callB (cs_repr b.sys b.h160 b.gd) rfl E.n_repr (by decide +kernel) (da_cons (de_var 11) da_nil)) (de_var 8) (by rfl)) (dw_or (dt_cmp (os_ne b.h64) (de_call G__law_kinds b.tk b.gd b.hr (alen_cons alen_nil) (da_cons (de_var 10) da_nil)) (de_lc b.calm b.nd (di_range1 rfl E.n_range (da_cons de_int da_nil)) (blkOk_by (own := [("_law_k", 12)]) (N := ["_law_script", "_law_deck_here", "_law_words", "_law_turn", "_law_at", "_law_word", "_law_it", "_law_by_name", "_law_kept", "_law_due", "_law_e", "_law_told", "_law_k"]) (sc := defScope s_law) (by decide +kernel)) (fun _ _ _ _ _ => (dg_name (i := 12) b.nd)) (fun _ _ _ _ _ => dts_nil) (fun _ _ _ _ _ => (de_cmp (os_eq b.h64) (de_var 12) (de_var 4) (by rfl)))) (by rfl)) (dw_or1 (dt_cmp (os_ne b.h64) (de_call G__law_bases b.tk b.gd b.hr (alen_cons alen_nil) (da_cons (de_var 10) da_nil)) (de_var 9) (by rfl)))))) (dss_one (ds_ret de_bl)) dss_nil))))
    (dss_one (ds_if (dt_cmp (os_ne b.h64) (de_callB (cs_repr b.sys b.h160 b.gd) rfl E.n_repr (by decide +kernel) (da_cons (de_var 6) da_nil)) (de_var 8) (by rfl)) (dss_one (ds_ret de_bl)) dss_nil))))))))
    (dss_one (ds_ret de_bl)))))
/-- the law's def, all its callees built up -/
theorem all_d (E : TB K mg) (hs : HasSys base) : FnD cm P w K mg base 62 "law" ["_law_script"] E.a_law E.d_law F_law := by
  have G__law_deck := d__law_deck (cm := cm) (P := P) (w := w) (base := base) (k := 0) E hs 
  have G__law_draw := d__law_draw (cm := cm) (P := P) (w := w) (base := base) (k := 0) E hs 
  have G__law_made_further := d__law_made_further (cm := cm) (P := P) (w := w) (base := base) (k := 2) E hs (by decide) 
  have G__law_kinds := d__law_kinds (cm := cm) (P := P) (w := w) (base := base) (k := 0) E hs 
  have G__law_bases := d__law_bases (cm := cm) (P := P) (w := w) (base := base) (k := 0) E hs 
  have G__law_value := d__law_value (cm := cm) (P := P) (w := w) (base := base) (k := 1) E hs (G__law_draw.mono (by decide)) 60
  have G__law_made := d__law_made (cm := cm) (P := P) (w := w) (base := base) (k := 3) E hs (by decide) (G__law_made_further.mono (by decide))
  have G_law := d_law (cm := cm) (P := P) (w := w) (base := base) (k := 61) E hs (G__law_deck.mono (by decide)) (G__law_value.mono (by decide)) (G__law_made.mono (by decide)) (G__law_bases.mono (by decide)) (G__law_kinds.mono (by decide))
  exact G_law
end
theorem end_F {P : Program} {w : World} {K : PySem.W.Frag} {mg : Str → Option Value} {fa : Addr} (hmg : mg "law" = some (.ref fa)) (E : TB K mg) (hF : ∀ ns : List Int, ns.length ≤ 63 → ∃ st, F_law [.scr ns] [] = .ok (.bl true) st) :
    ∃ (cm : Str → Option Value) (fd : FuncData) (Fl : FnF), (∀ (s : Shared) (u : Value), BindsTo s fd ⟨[u], []⟩ [("_law_script", u)]) ∧ (∀ base : Heap, K.In base → base.Ns mainGlobals mg → HasSys base → FnG P w K mg base 62 fa fd ["_law_script"] (spD cm K 1 Fl)) ∧
      ∀ ns : List Int, ns.length ≤ 63 → ∃ st, Fl [.scr ns] [] = .ok (.bl true) st := by
  obtain rfl : fa = E.a_law := by
    have e := hmg.symm.trans E.F_law.m
    injection e with e
    injection e
  refine ⟨fun _ => none, E.d_law, F_law, fun s u => ?_, fun base kb hb hs => (all_d E hs).ok, hF⟩
  obtain ⟨oc, od, kV, doc, pm, an, cdv, ct, osl, hfd, lk, hcd⟩ := E.F_law.F.ex
  rw [hfd]
  exact .of_eq rfl

end Mi
set_option Elab.async false
set_option linter.all false
set_option maxRecDepth 100000
set_option maxHeartbeats 1000000
/-! Ka_k01: the plain law of k02. -/
namespace Mi
open PySem
/-- what the deck's dict holds -/
def dkv (m k : Int) : List (L2.Key × D) := [(Sum.inr "cells", .ref 2), (Sum.inr "mixed", .int m), (Sum.inr "drawn", .int k)]
theorem dkv_c {m k : Int} : kvGet (dkv m k) (Sum.inr "cells") = some (.ref 2) := rfl
theorem dkv_m {m k : Int} : kvGet (dkv m k) (Sum.inr "mixed") = some (.int m) := rfl
theorem dkv_d {m k : Int} : kvGet (dkv m k) (Sum.inr "drawn") = some (.int k) := rfl
theorem dkv_p {m k j : Int} : kvPut (dkv m k) (Sum.inr "drawn") (.int j) = dkv m j := rfl
def Deck (st : Store) (k : Nat) : Prop := ∃ (c : List Int) (m : Int), st[3]? = some (.dic (dkv m k)) ∧ st[2]? = some (.lst (c.map .int)) ∧ c.length ≤ 63 ∧ 0 ≤ m ∧ m < 2147483629
theorem draw_ok {st : Store} {k : Nat} {w : Int} {Q : D → Store → Prop} (h : Deck st k) (hk : k < 2 ^ 32) (h0 : 0 < w) (hw : w ≤ 1000000000) (q : ∀ r st', 0 ≤ r → r < w → Deck st' (k + 1) → Grow [2, 3] st st' → Q (.int r) st') : Ev (F__law_draw [.ref 3, .int w] st) Q := by
  obtain ⟨c, m, h3, h2, hc, m0, m1⟩ := h
  simp only [F__law_draw, ev_run, evs_nil, evs_seq, evs_ret, evs_retN, evs_expr, evs_if, evs_set, evs_par2, evs_par3, evs_sub, evs_match, evs_mnil, evs_mcons, evs_for, ev_c, ev_v, ev_op, ev_un, ev_val, ev_bl, ev_tnot, ev_tand, ev_tor, ev_not, ev_and, ev_or, ev_if, ev_chain, ev_nil, ev_cons, ev_b, ev_call, ev_callK, ev_none, ev_some, ev_sl, ev_mt, ev_knil, ev_kcons, ev_dic, ev_iseq, ev_lc, ev_yes, ev_range1, ev_enum, ev_ok, ev_okX, List.map_cons, List.map_nil, List.length_cons, List.length_nil, List.replicate, List.cons_append, List.nil_append, List.getElem?_cons_zero, List.getElem?_cons_succ, List.set_cons_zero, List.set_cons_succ]
  rw [o_dic h3 dkv_d]
  rw [o_add, set_str h3 (by show 3 < 16777216; decide)]
  dsimp only
  rw [dkv_p]
  generalize hs1 : st.set 3 _ = st1
  have h3' : st1[3]? = some (.dic (dkv m ((k + 1 : Nat) : Int))) := by rw [← hs1]; exact get_set h3
  have h2' : st1[2]? = some (.lst (c.map .int)) := by rw [← hs1]; exact get_ne h2 (by decide)
  have g1 : Grow [2, 3] st st1 := by rw [← hs1]; exact Grow.set _ (by decide)
  clear hs1 h3 h2
  rw [o_dic h3' dkv_d, o_dic h3' dkv_m, o_dic h3' dkv_c, o_mkLst (by decide)]
  generalize hs2 : st1 ++ [O.lst []] = st2
  have h3 : st2[3]? = some (.dic (dkv m ((k + 1 : Nat) : Int))) := by rw [← hs2]; exact get_app h3'
  have h2 : st2[2]? = some (.lst (c.map .int)) := by rw [← hs2]; exact get_app h2'
  have g2 : Grow [2, 3] st st2 := by rw [← hs2]; exact g1.trans (Grow.app _)
  have hn : st2[st1.length]? = some (.lst []) := by rw [← hs2]; exact get_new
  clear hs2
  rw [o_opB (ne_nil h2 hn), ev_bl]
  have fin : ∀ (x : Int) (st2 : Store) (c : List Int), st2[3]? = some (.dic (dkv m ((k + 1 : Nat) : Int))) → st2[2]? = some (.lst (c.map .int)) → c.length ≤ 63 → Grow [2, 3] st st2 →
    EvO (modF (.int x) (D.int 2147483629) st2) fun x_5 st1 => EvO (mulF (D.int 65563) (.int ((k + 1 : Nat) : Int)) st1) fun x_6 st1 => EvO (mulF x_6 (.int ((k + 1 : Nat) : Int)) st1) fun y st2 => EvO (addF x_5 y st2) fun x_7 st1 => EvO (addF x_7 (D.int 13) st1) fun x_8 st1 =>
      EvO (mulF x_8 (D.int 40692) st1) fun x_9 st1 => EvO (modF x_9 (D.int 2147483647) st1) fun d st1 => EvO (mulF d d st1) fun x_10 st1 => EvO (mulF (D.int 69621) (.int ((k + 1 : Nat) : Int)) st1) fun y st2 => EvO (addF x_10 y st2) fun x st1 => EvO (addF x (D.int 23) st1) fun x st1 =>
      EvO (modF x (D.int 2147483587) st1) fun d st1 => EvO (mulF d (D.int 48271) st1) fun x st1 => EvO (modF x (D.int 2147483563) st1) fun x st1 => EvO (fdivF x (D.int 64) st1) fun x st1 => EvO (modF x (D.int w) st1) Q := by
    intro x st2 c h3 h2 hc g
    have kk : (((k + 1 : Nat) : Int)) ≤ 4294967296 := by omega
    have k0 : 0 ≤ (((k + 1 : Nat) : Int)) := by omega
    have fin1 : ∀ r, 0 ≤ r → r < w → Q (.int r) st2 := fun r a b => q r st2 a b ⟨c, m, h3, h2, hc, m0, m1⟩ g
    generalize (((k + 1 : Nat) : Int)) = t at kk k0 ⊢
    have p1 : t * t ≤ 4294967296 * 4294967296 := Int.mul_le_mul kk kk k0 (by decide)
    have p0 : 0 ≤ t * t := Int.mul_nonneg k0 k0
    have a1 : 65563 * t * t = 65563 * (t * t) := Int.mul_assoc _ _ _
    have n1 : t.natAbs < 2 ^ 200 := by omega
    have n2 : (65563 * t).natAbs < 2 ^ 200 := by omega
    rw [o_mod (by decide), o_mul (by decide) n1, o_mul n2 n1, o_add, o_add, a1]
    generalize t * t = tt at p1 p0 ⊢
    have x0 := Int.emod_nonneg x (b := 2147483629) (by decide)
    have x1 := Int.emod_lt_of_pos x (b := 2147483629) (by decide)
    have n3 : (x % 2147483629 + 65563 * tt + 13).natAbs < 2 ^ 200 := by omega
    rw [o_mul n3 (by decide), o_mod (by decide)]
    generalize hu : (x % 2147483629 + 65563 * tt + 13) * 40692 % 2147483647 = u
    have u0 : 0 ≤ u := by rw [← hu]; exact Int.emod_nonneg _ (by decide)
    have u1 : u < 2147483647 := by rw [← hu]; exact Int.emod_lt_of_pos _ (by decide)
    clear hu
    have n4 : u.natAbs < 2 ^ 200 := by omega
    rw [o_mul n4 n4, o_mul (by decide) n1, o_add, o_add, o_mod (by decide)]
    generalize hv : (u * u + 69621 * t + 23) % 2147483587 = v
    have v0 : 0 ≤ v := by rw [← hv]; exact Int.emod_nonneg _ (by decide)
    have v1 : v < 2147483587 := by rw [← hv]; exact Int.emod_lt_of_pos _ (by decide)
    clear hv
    have n5 : v.natAbs < 2 ^ 200 := by omega
    rw [o_mul n5 (by decide), o_mod (by decide), o_fdiv (by decide) (by decide), o_mod h0]
    exact fin1 _ (Int.emod_nonneg _ (by omega)) (Int.emod_lt_of_pos _ h0)
  cases hcc : c.getLast? with
  | none =>
    have hce : c = [] := List.getLast?_eq_none_iff.mp hcc
    subst hce
    rw [if_neg (by simp)]
    exact fin m st2 [] h3 h2 hc g2
  | some y =>
    have hne : c ≠ [] := by rintro rfl; cases hcc
    have hemp : (!(c.map D.int).isEmpty) = true := by
      cases c with
      | nil => exact absurd rfl hne
      | cons _ _ => rfl
    rw [if_pos hemp, o_dic h3 dkv_c]
    refine ⟨ty_lst h2, ?_⟩
    have hl : (c.map D.int).getLast? = some (.int y) := by rw [List.getLast?_map, hcc]; rfl
    rw [o_pop h2 hl, ← List.map_dropLast]
    generalize hs3 : st2.set 2 _ = st3
    have h3' : st3[3]? = some (.dic (dkv m ((k + 1 : Nat) : Int))) := by rw [← hs3]; exact get_ne h3 (by decide)
    have h2' : st3[2]? = some (.lst (c.dropLast.map .int)) := by rw [← hs3]; exact get_set h2
    have g3 : Grow [2, 3] st st3 := by rw [← hs3]; exact g2.trans (Grow.set _ (by decide))
    have hc' : c.dropLast.length ≤ 62 := by rw [List.length_dropLast]; omega
    clear hs3
    rw [o_pow (by decide) (by decide) (by decide), o_cmp, ev_bl]
    by_cases big : (10 : Int) ^ (Int.toNat 18) ≤ y
    · rw [if_pos (decide_eq_true big), o_dic h3' dkv_c]
      refine ⟨ty_lst h2', ?_⟩
      have nw : w.natAbs < 2 ^ 200 := by omega
      have hlen : (c.dropLast.map D.int).length < LIM := by
        rw [List.length_map]
        show _ < 16777216
        omega
      rw [o_fdiv h0 nw, o_app h2' hlen, o_mod h0]
      refine q _ _ (Int.emod_nonneg _ (by omega)) (Int.emod_lt_of_pos _ h0) ⟨c.dropLast ++ [y / w], m, get_ne h3' (by decide), ?_, ?_, m0, m1⟩ (g3.trans (Grow.set _ (by decide)))
      · rw [get_set h2', List.map_append]; rfl
      · rw [List.length_append, List.length_singleton]; omega
    · rw [if_neg (by simpa using big), o_dic h3' dkv_m, o_add]
      exact fin _ st3 _ h3' h2' (by omega) g3
theorem cutD_map {α β : Type} (f : α → β) (xs : List α) (lo hi : Option Int) : cutD (xs.map f) lo hi = (cutD xs lo hi).map f := by
  unfold cutD
  rw [List.length_map, ← List.map_drop, ← List.map_take]
theorem deck_ok {ns : List Int} (h : ns.length ≤ 63) {Q : D → Store → Prop} (q : ∀ st', Deck st' 0 → Q (.ref 3) st') : Ev (F__law_deck [.scr ns] []) Q := by
  simp only [F__law_deck, ev_run, evs_nil, evs_seq, evs_ret, evs_retN, evs_expr, evs_if, evs_set, evs_par2, evs_par3, evs_sub, evs_match, evs_mnil, evs_mcons, evs_for, ev_c, ev_v, ev_op, ev_un, ev_val, ev_bl, ev_tnot, ev_tand, ev_tor, ev_not, ev_and, ev_or, ev_if, ev_chain, ev_nil, ev_cons, ev_b, ev_call, ev_callK, ev_none, ev_some, ev_sl, ev_mt, ev_knil, ev_kcons, ev_dic, ev_iseq, ev_lc, ev_yes, ev_range1, ev_enum, ev_ok, ev_okX, List.map_cons, List.map_nil, List.length_cons, List.length_nil, List.replicate, List.cons_append, List.nil_append, List.getElem?_cons_zero, List.getElem?_cons_succ, List.set_cons_zero, List.set_cons_succ]
  show EvO (alloc (.lst (cutD (ns.map D.int) none (some 63))) []) _
  rw [evo_alloc, cutD_map]
  have hlen : (cutD ns none (some 63)).length ≤ 63 := by
    unfold cutD
    rw [List.length_take, List.length_drop]
    omega
  generalize cutD ns none (some 63) = c at hlen
  show EvO (alloc (.lst (c.map D.int)) [O.lst (c.map D.int)]) _
  rw [evo_alloc]
  show Ev (R.ok ({ items := c.map D.int, still := fun st' => st'[1]? = some (.lst (c.map D.int)) } : IT) [O.lst (c.map D.int), O.lst (c.map D.int)]) _
  first | rw [ev_ok] | rw [ev_okX]
  dsimp only
  refine evs_forGo (fun _ p s => s = [O.lst (c.map D.int), O.lst (c.map D.int)] ∧ ∃ o m, p = [some (.scr ns), o, some (.ref 1), some (.int m)] ∧ 0 ≤ m ∧ m < 2147483629) _ 0 _ _ ⟨rfl, none, _, rfl, by decide, by decide⟩ (fun i p s _ _ h => by rw [h.1]; rfl) (fun i d p s _ hd hI => ?_) (fun p s hI => ?_)
  · obtain ⟨rfl, o, m, rfl, m0, m1⟩ := hI
    rw [List.getElem?_map] at hd
    obtain ⟨x, _, rfl⟩ := Option.map_eq_some_iff.mp hd
    refine ⟨_, rfl, ?_⟩
    simp only [ev_run, evs_nil, evs_seq, evs_ret, evs_retN, evs_expr, evs_if, evs_set, evs_par2, evs_par3, evs_sub, evs_match, evs_mnil, evs_mcons, evs_for, ev_c, ev_v, ev_op, ev_un, ev_val, ev_bl, ev_tnot, ev_tand, ev_tor, ev_not, ev_and, ev_or, ev_if, ev_chain, ev_nil, ev_cons, ev_b, ev_call, ev_callK, ev_none, ev_some, ev_sl, ev_mt, ev_knil, ev_kcons, ev_dic, ev_iseq, ev_lc, ev_yes, ev_range1, ev_enum, ev_ok, ev_okX, List.map_cons, List.map_nil, List.length_cons, List.length_nil, List.replicate, List.cons_append, List.nil_append, List.getElem?_cons_zero, List.getElem?_cons_succ, List.set_cons_zero, List.set_cons_succ]
    have n1 : m.natAbs < 2 ^ 200 := by omega
    rw [o_mul n1 (by decide), o_mod (by decide), o_add, o_add, o_mod (by decide)]
    exact ⟨rfl, _, _, rfl, Int.emod_nonneg _ (by decide), Int.emod_lt_of_pos _ (by decide)⟩
  · obtain ⟨rfl, o, m, rfl, m0, m1⟩ := hI
    simp only [ev_run, evs_nil, evs_seq, evs_ret, evs_retN, evs_expr, evs_if, evs_set, evs_par2, evs_par3, evs_sub, evs_match, evs_mnil, evs_mcons, evs_for, ev_c, ev_v, ev_op, ev_un, ev_val, ev_bl, ev_tnot, ev_tand, ev_tor, ev_not, ev_and, ev_or, ev_if, ev_chain, ev_nil, ev_cons, ev_b, ev_call, ev_callK, ev_none, ev_some, ev_sl, ev_mt, ev_knil, ev_kcons, ev_dic, ev_iseq, ev_lc, ev_yes, ev_range1, ev_enum, ev_ok, ev_okX, List.map_cons, List.map_nil, List.length_cons, List.length_nil, List.replicate, List.cons_append, List.nil_append, List.getElem?_cons_zero, List.getElem?_cons_succ, List.set_cons_zero, List.set_cons_succ]
    show EvO (alloc (.lst (c.map D.int).reverse) [O.lst (c.map D.int), O.lst (c.map D.int)]) _
    rw [evo_alloc, o_mkDic (by show 3 ≤ 15; decide)]
    have dk : Deck ([O.lst (c.map D.int), O.lst (c.map D.int)] ++ [O.lst (c.map D.int).reverse] ++ [O.dic (dkv m 0)]) 0 := ⟨c.reverse, m, rfl, by rw [List.map_reverse]; rfl, by rw [List.length_reverse]; exact hlen, m0, m1⟩
    exact q _ dk
theorem eqF_int {st : Store} {a b : Int} : eqF (.int a) (.int b) st = some (a == b) := by
  obtain ⟨n, e⟩ := eqn_pos
  unfold eqF
  rw [e]
  rfl
theorem o_slS {st : Store} {Q : D → Store → Prop} {z : Str} {lo hi : Option Int} (h : z.length ≤ LIM) : EvO (slF (.str z) lo hi st) Q = Q (.str (L2.cutS z lo hi)) st := by simp only [slF, if_pos h]; rfl
theorem o_addS {st : Store} {Q : D → Store → Prop} {a b : Str} (h : a.length + b.length ≤ LIM) : EvO (addF (.str a) (.str b) st) Q = Q (.str (a ++ b)) st := by simp only [addF, if_pos h]; rfl
theorem o_ixS {st : Store} {Q : D → Store → Prop} {z : Str} {i : Int} {c : Nat} (h : z.length ≤ LIM) (e : L2.atI z.cps.toList i = some c) : EvO (ixF (.str z) (.int i) st) Q = Q (.str ⟨#[c]⟩) st := by simp only [ixF, if_pos h, e]; rfl
theorem o_mulS {st : Store} {Q : D → Store → Prop} {z : Str} {n : Int} (h0 : 0 ≤ n) (h1 : n ≤ 1000000) (h2 : z.length * n.toNat ≤ LIM) : EvO (mulF (.str z) (.int n) st) Q = Q (.str ⟨(List.replicate n.toNat z.cps.toList).flatten.toArray⟩) st := by
  simp only [mulF]
  rw [if_pos ⟨h0, h1, h2⟩]
  rfl
theorem o_addL {st : Store} {Q : D → Store → Prop} {l m : Nat} {a b : List D} (h1 : st[l]? = some (.lst a)) (h2 : st[m]? = some (.lst b)) (h : a.length + b.length ≤ LIM) : EvO (addF (.ref l) (.ref m) st) Q = Q (.ref st.length) (st ++ [.lst (a ++ b)]) := by
  simp only [addF, h1, h2, if_pos h]
  rfl
theorem o_slL {st : Store} {Q : D → Store → Prop} {l : Nat} {ds : List D} {lo hi : Option Int} (h : st[l]? = some (.lst ds)) : EvO (slF (.ref l) lo hi st) Q = Q (.ref st.length) (st ++ [.lst (cutD ds lo hi)]) := by
  simp only [slF, h]
  rfl
theorem Deck.app {st : Store} {k : Nat} (h : Deck st k) (x : List O) : Deck (st ++ x) k := by
  obtain ⟨c, m, a1, a2, a3⟩ := h
  exact ⟨c, m, get_app a1, get_app a2, a3⟩
theorem Deck.new {st : Store} {k : Nat} (h : Deck st k) : st.length ∉ [2, 3] := by
  obtain ⟨c, m, a1, a2, a3⟩ := h
  have := (List.getElem?_eq_some_iff.mp a1).1
  simp only [List.mem_cons, List.not_mem_nil, or_false]
  omega
/-- only new places -/
def App (st st' : Store) : Prop := ∃ x, st' = st ++ x
theorem App.refl {st : Store} : App st st := ⟨[], by simp⟩
theorem App.one {st : Store} (o : O) : App st (st ++ [o]) := ⟨_, rfl⟩
theorem App.trans {a b c : Store} (h : App a b) (h' : App b c) : App a c := by
  obtain ⟨x, rfl⟩ := h
  obtain ⟨y, rfl⟩ := h'
  exact ⟨x ++ y, by rw [List.append_assoc]⟩
theorem App.grow {L : List Nat} {a b : Store} (h : App a b) : Grow L a b := by
  obtain ⟨x, rfl⟩ := h
  exact Grow.app x
theorem App.deck {a b : Store} {k : Nat} (h : App a b) (d : Deck a k) : Deck b k := by
  obtain ⟨x, rfl⟩ := h
  exact d.app x
theorem eqF_str {st : Store} {a b : Str} : eqF (.str a) (.str b) st = some (a == b) := by
  obtain ⟨n, e⟩ := eqn_pos
  unfold eqF
  rw [e]
  rfl
theorem App.get {a b : Store} (h : App a b) {l : Nat} {o : O} (e : a[l]? = some o) : b[l]? = some o := by
  obtain ⟨x, rfl⟩ := h
  exact get_app e
theorem App.len {a b : Store} (h : App a b) : a.length ≤ b.length := by
  obtain ⟨x, rfl⟩ := h
  rw [List.length_append]; omega
theorem App.put {a b : Store} (h : App a b) {l : Nat} {o : O} (e : a.length ≤ l) : App a (b.set l o) := by
  obtain ⟨x, rfl⟩ := h
  exact ⟨x.set (l - a.length) o, by rw [List.set_append_right _ _ e]⟩
theorem Deck.lt {st : Store} {k : Nat} (h : Deck st k) : ∀ l ∈ [2, 3], l < st.length := by
  obtain ⟨c, m, a1, a2, a3⟩ := h
  have := (List.getElem?_eq_some_iff.mp a1).1
  simp only [List.mem_cons, List.not_mem_nil, or_false]
  omega
end Mi
set_option Elab.async false
set_option linter.all false
set_option maxRecDepth 100000
set_option maxHeartbeats 1000000
/-! Kb: any value, drawn. -/
namespace Mi
open PySem
def VN : Nat → Nat
  | 0 => 2
  | d + 1 => 3 + 3 * VN d
def VW : Nat → Nat
  | 0 => 140
  | d + 1 => 3 * (VW d + 1) + 20
def VD : Nat → Nat
  | 0 => 1
  | d + 1 => VD d + 3
theorem VN_2 : ∀ d, 2 ≤ VN d
  | 0 => Nat.le_refl _
  | d + 1 => by show 2 ≤ 3 + 3 * VN d; omega
theorem VW_140 : ∀ d, 140 ≤ VW d
  | 0 => Nat.le_refl _
  | d + 1 => by have := VW_140 d; show 140 ≤ 3 * (VW d + 1) + 20; omega
theorem VD_1 : ∀ d, 1 ≤ VD d
  | 0 => Nat.le_refl _
  | d + 1 => by show 1 ≤ VD d + 3; omega
theorem rg_len {n : Int} : (rgItems 0 n.toNat).length = n.toNat := by simp [rgItems]
theorem o_tupleL {st : Store} {Q : D → Store → Prop} {l : Nat} {ds : List D} (h : st[l]? = some (.lst ds)) : EvO (tupleF [.ref l] st) Q = Q (.tup ds) st := by simp only [tupleF, h]; rfl
/-- a dict of one text -/
theorem val_dic1 {L : List Nat} {st : Store} {B : Bd} {n w l : Nat} {z : Str} {d : D} (hl : l ∉ L) (e0 : st[l]? = some (.dic [(Sum.inr z, d)])) (hz : ∀ c ∈ z.cps.toList, c < 128) (hs : z.length ≤ B.s) (h : Val L st B n w d) : Val L st B (n + 1) (w + z.length + 2) (.ref l) := by
  obtain ⟨t, e, lf, hw⟩ := h
  refine ⟨.dict [(.str z, t)], ?_, ⟨⟨hz, hs⟩, lf, trivial⟩, ?_⟩
  · simp only [datM, look, if_neg hl, e0, datK, e]
    rfl
  · simp only [PyData.weight, PyData.weightKv]
    have : z.cps.size = z.length := rfl
    omega
theorem va_str {L : List Nat} {st : Store} {n : Nat} (z : Str) (h1 : decide (z.length ≤ 3) = true) (h2 : z.cps.toList.all (fun c => decide (c < 128)) = true) : Val L st topB (n + 1) 3 (.str z) := by
  have h1 := of_decide_eq_true h1
  refine val_str (fun c hc => ?_) h1 (Nat.le_trans h1 (by decide))
  have := List.all_eq_true.mp h2 c hc
  simpa using this
theorem eight_val {L : List Nat} {st : Store} {r : Int} (r0 : 0 ≤ r) (r1 : r < 10 ^ (Int.toNat 9)) : ∀ x ∈ [D.non, .bl true, .bl false, .int 0, .int (0 - r), .int (10 ^ (Int.toNat 39)), .str "", .str "add"], Val L st topB 1 140 x := by
  have up : ∀ {x : D} {w : Nat}, Val L st topB 1 w x → w ≤ 140 → Val L st topB 1 140 x := fun h hw => h.mono Bd.le (Nat.le_refl _) hw
  have r2 : r < 1000000000 := r1
  intro x hx
  simp only [List.mem_cons, List.not_mem_nil, or_false] at hx
  rcases hx with rfl | rfl | rfl | rfl | rfl | rfl | rfl | rfl
  · exact val_non
  · exact val_bl _
  · exact val_bl _
  · exact up (val_int (w := 1) (by decide +kernel) (by decide)) (by decide)
  · have e : (0 - r).natAbs < 1000000000 := by omega
    exact up (val_int (w := 30) (Nat.lt_of_lt_of_le e (by decide +kernel)) (Nat.lt_of_lt_of_le e (by decide))) (by decide)
  · exact val_int (by decide +kernel) (by decide +kernel)
  · exact up (va_str _ (by decide +kernel) (by decide +kernel)) (by decide)
  · exact up (va_str _ (by decide +kernel) (by decide +kernel)) (by decide)
theorem value_ok : ∀ (d n : Nat), d < n → d ≤ 3 → ∀ {st : Store} {k : Nat} {Q : D → Store → Prop}, Deck st k → k + VN d < 2 ^ 32 →
    (∀ x st' k', Val [2, 3] st' topB (VD d) (VW d) x → Deck st' k' → k' ≤ k + VN d → Grow [2, 3] st st' → Q x st') → Ev (F__law_value n [.ref 3, .int (d : Nat)] st) Q := by
  intro d
  induction d with
  | zero =>
    intro n hn _ st k Q h hk q
    obtain ⟨n, rfl⟩ : ∃ j, n = j + 1 := ⟨n - 1, by omega⟩
    have hv : VN 0 = 2 := rfl
    simp only [F__law_value, ev_run, evs_nil, evs_seq, evs_ret, evs_retN, evs_expr, evs_if, evs_set, evs_par2, evs_par3, evs_sub, evs_match, evs_mnil, evs_mcons, evs_for, ev_c, ev_v, ev_op, ev_un, ev_val, ev_bl, ev_tnot, ev_tand, ev_tor, ev_not, ev_and, ev_or, ev_if, ev_chain, ev_nil, ev_cons, ev_b, ev_call, ev_callK, ev_none, ev_some, ev_sl, ev_mt, ev_knil, ev_kcons, ev_dic, ev_iseq, ev_lc, ev_yes, ev_range1, ev_enum, ev_ok, ev_okX, evs_raise, ev_inRg, List.map_cons, List.map_nil, List.length_cons, List.length_nil, List.replicate, List.cons_append, List.nil_append, List.getElem?_cons_zero, List.getElem?_cons_succ, List.set_cons_zero, List.set_cons_succ]
    rw [o_cmp, ev_bl, if_neg (by decide)]
    refine draw_ok h (by omega) (by decide) (by decide) fun w s1 w0 w1 h1 g1 => ?_
    rw [o_cmp, ev_bl, if_pos (decide_eq_true w1), o_pow (by decide) (by decide) (by decide)]
    refine draw_ok h1 (by omega) (by decide) (by decide) fun r s2 r0 r1 h2 g2 => ?_
    rw [o_sub, o_pow (by decide) (by decide) (by decide), o_mkLst (by show 8 ≤ 16777216; decide)]
    obtain ⟨x, e1, e2⟩ := atI_ofNat (ds := [D.non, .bl true, .bl false, .int 0, .int (0 - r), .int (10 ^ (Int.toNat 39)), .str "", .str "add"]) w0 (by show w < 8; exact w1)
    rw [o_lst get_new e1]
    exact q x _ _ (eight_val r0 r1 x (List.mem_of_getElem? e2)) (h2.app _) (by omega) ((g1.trans g2).trans (Grow.app _))
  | succ d ih =>
    intro n hn hd3 st k Q h hk q
    obtain ⟨n, rfl⟩ : ∃ j, n = j + 1 := ⟨n - 1, by omega⟩
    have hv : VN (d + 1) = 3 + 3 * VN d := rfl
    have hw : VW (d + 1) = 3 * (VW d + 1) + 20 := rfl
    have hvd : VD (d + 1) = VD d + 3 := rfl
    have v2 := VN_2 d
    have v1 := VD_1 d
    have w140 := VW_140 d
    simp only [F__law_value, ev_run, evs_nil, evs_seq, evs_ret, evs_retN, evs_expr, evs_if, evs_set, evs_par2, evs_par3, evs_sub, evs_match, evs_mnil, evs_mcons, evs_for, ev_c, ev_v, ev_op, ev_un, ev_val, ev_bl, ev_tnot, ev_tand, ev_tor, ev_not, ev_and, ev_or, ev_if, ev_chain, ev_nil, ev_cons, ev_b, ev_call, ev_callK, ev_none, ev_some, ev_sl, ev_mt, ev_knil, ev_kcons, ev_dic, ev_iseq, ev_lc, ev_yes, ev_range1, ev_enum, ev_ok, ev_okX, evs_raise, ev_inRg, List.map_cons, List.map_nil, List.length_cons, List.length_nil, List.replicate, List.cons_append, List.nil_append, List.getElem?_cons_zero, List.getElem?_cons_succ, List.set_cons_zero, List.set_cons_succ, wipeR]
    rw [o_cmp, ev_bl, if_pos (by rw [decide_eq_true_eq]; omega)]
    refine draw_ok h (by omega) (by decide) (by decide) fun w s1 w0 w1 h1 g1 => ?_
    rw [o_cmp, ev_bl]
    by_cases w8 : w < 8
    · rw [if_pos (decide_eq_true w8), o_pow (by decide) (by decide) (by decide)]
      refine draw_ok h1 (by omega) (by decide) (by decide) fun r s2 r0 r1 h2 g2 => ?_
      rw [o_sub, o_pow (by decide) (by decide) (by decide), o_mkLst (by show 8 ≤ 16777216; decide)]
      obtain ⟨x, e1, e2⟩ := atI_ofNat (ds := [D.non, .bl true, .bl false, .int 0, .int (0 - r), .int (10 ^ (Int.toNat 39)), .str "", .str "add"]) w0 (by show w < 8; exact w8)
      rw [o_lst get_new e1]
      exact q x _ _ ((eight_val r0 r1 x (List.mem_of_getElem? e2)).mono Bd.le (by omega) (by omega)) (h2.app _) (by omega) ((g1.trans g2).trans (Grow.app _))
    · rw [if_neg (by simpa using w8)]
      refine draw_ok h1 (by omega) (by decide) (by decide) fun c s2 c0 c4 h2 g2 => ?_
      dsimp only
      refine ⟨⟨by omega, by omega⟩, ?_⟩
      refine ev_comp (fun i acc s => ∃ kk, Deck s kk ∧ kk ≤ k + 2 + i * VN d ∧ Vls [2, 3] s topB (VD d) (i * (VW d + 1)) acc ∧ acc.length = i ∧ Grow [2, 3] st s) _ 0 [] s2 ⟨_, h2, by omega, Vls.nil, rfl, g1.trans g2⟩ (fun _ _ _ _ _ _ => trivial) (fun i dd acc s _ hdd hI => ?_) (fun ys s hI => ?_)
      · obtain ⟨kk, hs, hkk, va, hl, gs⟩ := hI
        have hi := (List.getElem?_eq_some_iff.mp hdd).1
        rw [Nat.sub_zero, rg_len] at hi
        have hi2 : i ≤ 2 := by omega
        have im : i * VN d ≤ 2 * VN d := Nat.mul_le_mul_right _ hi2
        refine ⟨_, rfl, ?_⟩
        simp only [ev_run, evs_nil, evs_seq, evs_ret, evs_retN, evs_expr, evs_if, evs_set, evs_par2, evs_par3, evs_sub, evs_match, evs_mnil, evs_mcons, evs_for, ev_c, ev_v, ev_op, ev_un, ev_val, ev_bl, ev_tnot, ev_tand, ev_tor, ev_not, ev_and, ev_or, ev_if, ev_chain, ev_nil, ev_cons, ev_b, ev_call, ev_callK, ev_none, ev_some, ev_sl, ev_mt, ev_knil, ev_kcons, ev_dic, ev_iseq, ev_lc, ev_yes, ev_range1, ev_enum, ev_ok, ev_okX, evs_raise, ev_inRg, List.map_cons, List.map_nil, List.length_cons, List.length_nil, List.replicate, List.cons_append, List.nil_append, List.getElem?_cons_zero, List.getElem?_cons_succ, List.set_cons_zero, List.set_cons_succ, gNameF]
        rw [if_pos True.intro, o_sub]
        have e1 : ((d + 1 : Nat) : Int) - 1 = ((d : Nat) : Int) := by omega
        rw [e1]
        refine ih n (by omega) (by omega) hs (by omega) fun x s3 k3 vx h3 hk3 g3 => ?_
        have t1 : (i + 1) * VN d = i * VN d + VN d := by rw [Nat.add_mul, Nat.one_mul]
        have t2 : (i + 1) * (VW d + 1) = i * (VW d + 1) + (VW d + 1) := by rw [Nat.add_mul, Nat.one_mul]
        refine ⟨k3, h3, by omega, ?_, by rw [List.length_append, hl]; rfl, gs.trans g3⟩
        exact ((va.grow g3).append (Vls.one vx)).mono Bd.le (Nat.le_refl _) (by omega)
      · obtain ⟨kk, hs, hkk, va, hl, gs⟩ := hI
        rw [List.nil_append] at hl va
        rw [rg_len] at hl
        rw [rg_len, Nat.zero_add] at hkk va
        have c3 : c.toNat ≤ 3 := by omega
        have m1 : c.toNat * VN d ≤ 3 * VN d := Nat.mul_le_mul_right _ c3
        have m2 : c.toNat * (VW d + 1) ≤ 3 * (VW d + 1) := Nat.mul_le_mul_right _ c3
        have nl := hs.new
        have vls : Vls [2, 3] s topB (VD d) (3 * (VW d + 1)) ys := va.mono Bd.le (Nat.le_refl _) m2
        rw [o_mkLst (by show _ ≤ 16777216; omega)]
        have hs2 := hs.app [O.lst ys]
        have e1 : (s ++ [O.lst ys])[s.length]? = some (.lst ys) := get_new
        have g2' : Grow [2, 3] s (s ++ [O.lst ys]) := Grow.app _
        have nd := hs2.new
        generalize hs5 : s ++ [O.lst ys] = s5 at hs2 e1 g2' nd ⊢
        generalize s.length = l at nl e1 ⊢
        have vlst : Val [2, 3] s5 topB (VD d + 1) (3 * (VW d + 1)) (.ref l) := val_lst nl e1 (vls.grow g2')
        have vtup : Val [2, 3] s5 topB (VD d + 1) (3 * (VW d + 1)) (.tup ys) := val_tup (vls.grow g2')
        rw [o_tupleL e1, o_mkTup (by decide), o_mkTup (by show 2 ≤ 16777216; decide), o_mkDic (by show 1 ≤ 15; decide), o_mkLst (by show 4 ≤ 16777216; decide)]
        have ed : (s5 ++ [O.dic (kvMerge [(Sum.inr "a", D.ref l)])])[s5.length]? = some (.dic [(Sum.inr "a", D.ref l)]) := get_new
        have g6 : Grow [2, 3] s5 (s5 ++ [O.dic (kvMerge [(Sum.inr "a", D.ref l)])]) := Grow.app _
        have hs6 := hs2.app [O.dic (kvMerge [(Sum.inr "a", D.ref l)])]
        generalize s5 ++ [O.dic (kvMerge [(Sum.inr "a", D.ref l)])] = s6 at ed g6 hs6 ⊢
        generalize s5.length = ld at nd ed ⊢
        rw [o_sub]
        obtain ⟨x, q1, q2⟩ := atI_ofNat (ds := [D.tup ys, .ref l, .tup [.str "add", .tup [.int 0, .int 1]], .ref ld]) (i := w - 8) (by omega) (by show w - 8 < 4; omega)
        rw [o_lst get_new q1]
        have vx : Val [2, 3] s6 topB (VD (d + 1)) (VW (d + 1)) x := by
          have up : ∀ {y : D} {n w : Nat}, Val [2, 3] s6 topB n w y → n ≤ VD (d + 1) → w ≤ VW (d + 1) → Val [2, 3] s6 topB (VD (d + 1)) (VW (d + 1)) y := fun h h1 h2 => h.mono Bd.le h1 h2
          have := List.mem_of_getElem? q2
          simp only [List.mem_cons, List.not_mem_nil, or_false] at this
          rcases this with rfl | rfl | rfl | rfl
          · exact up (vtup.grow g6) (by omega) (by omega)
          · exact up (vlst.grow g6) (by omega) (by omega)
          · exact up (val_tup (Vls.cons (va_str (n := 2) "add" (by decide +kernel) (by decide +kernel)) (Vls.one (val_tup (Vls.cons (val_int (n := 1) (w := 1) (i := 0) (by decide +kernel) (by decide)) (Vls.one (val_int (n := 1) (w := 1) (i := 1) (by decide +kernel) (by decide)))))))) (by omega) (by omega)
          · have la : (Str.ofString "a").length = 1 := by decide +kernel
            have := val_dic1 nd ed (by decide +kernel) (by rw [la]; decide) (vlst.grow g6)
            rw [la] at this
            exact up this (by omega) (by omega)
        exact q x _ kk (vx.grow (Grow.app _)) (hs6.app _) (by omega) (((gs.trans g2').trans g6).trans (Grow.app _))
end Mi
set_option Elab.async false
set_option linter.all false
set_option maxRecDepth 100000
set_option maxHeartbeats 1000000
/-! Kc: errors made, and what is asked of them. -/
namespace Mi
open PySem
/-- the words, the classes, the fields -/
def W13 : List (Str × Str × Str) := [("program", "InvalidProgram", "part"), ("many", "TooMany", "what"), ("text", "InvalidText", "line"), ("line", "InvalidLine", "line"), ("story", "NoStory", "path"), ("great", "TooGreat", "limit"),
  ("unlike", "NotComparable", "name"), ("out", "NotLetIn", "request"), ("waiting", "NotWaiting", "number"), ("broken", "Broken", "path"), ("open", "UnknownOpen", "place"), ("empty", "Empty", ""), ("busy", "Busy", "")]
theorem o_errF {st : Store} {Q : D → Store → Prop} {x f : Str} {d : D} : EvO (errF x f d st) Q = Q (.ref st.length) (st ++ [.err x [(f, d)]]) := rfl
theorem o_errF0 {st : Store} {Q : D → Store → Prop} {x : Str} {ds : List D} : EvO (errF0 x ds st) Q = Q (.ref st.length) (st ++ [.err x []]) := rfl
theorem o_efl {st : Store} {Q : D → Store → Prop} {tab : List (Str × Bool)} {n cls : Str} {l : Nat} {d : D} (h : st[l]? = some (.err cls [(n, d)])) (ht : tab.lookup cls = some true) : EvO (eflF tab n (.ref l) st) Q = Q d st := by
  simp only [eflF, h, if_pos ht]
  have : List.lookup n [(n, d)] = some d := by simp [List.lookup]
  rw [this]
  rfl
theorem o_eis {st : Store} {Q : D → Store → Prop} {tab : List (Str × Bool)} {cls : Str} {fs : List (Str × D)} {l : Nat} {b : Bool} (h : st[l]? = some (.err cls fs)) (ht : tab.lookup cls = some b) : EvO (eisF tab (.ref l) st) Q = Q (.bl b) st := by
  simp only [eisF, h, ht]
  rfl
theorem made1_ok {w : Str × Str × Str} {x : D} {b : Bool} {st : Store} {Q : D → Store → Prop} (hw : w ∈ W13) (q : ∀ l st' fs, st'[l]? = some (.err w.2.1 fs) → App st st' → Q (.tup [.ref l, x]) st') : Ev (F__law_made [.str w.1, x, .bl b] st) Q := by
  simp only [W13, List.mem_cons, List.not_mem_nil, or_false] at hw
  have two : ∀ {ds : List D}, ds.length = 2 → ds.length ≤ LIM := fun h => by rw [h]; decide
  have get1 : ∀ {o : O}, (st ++ [o])[st.length]? = some o := get_new
  simp only [F__law_made, F__law_made_further, ev_run, evs_nil, evs_seq, evs_ret, evs_retN, evs_expr, evs_if, evs_set, evs_par2, evs_par3, evs_sub, evs_match, evs_mnil, evs_mcons, evs_for, ev_c, ev_v, ev_op, ev_un, ev_val, ev_bl, ev_tnot, ev_tand, ev_tor, ev_not, ev_and, ev_or, ev_if, ev_chain, ev_nil, ev_cons, ev_b, ev_call, ev_callK, ev_none, ev_some, ev_sl, ev_mt, ev_knil, ev_kcons, ev_dic, ev_iseq, ev_lc, ev_yes, ev_range1, ev_enum, ev_ok, ev_okX, evs_raise, ev_inRg, List.map_cons, List.map_nil, List.length_cons, List.length_nil, List.replicate, List.cons_append, List.nil_append, List.getElem?_cons_zero, List.getElem?_cons_succ, List.set_cons_zero, List.set_cons_succ, ite_self]
  rcases hw with rfl | rfl | rfl | rfl | rfl | rfl | rfl | rfl | rfl | rfl | rfl | rfl | rfl
  all_goals dsimp only
  all_goals repeat (rw [o_opB eqF_str, ev_bl]; first | rw [if_neg (by decide +kernel)] | (rw [if_pos (by decide +kernel)]; skip))
  all_goals first | rw [o_errF, o_efl get_new (by decide +kernel), o_mkTup (two rfl)] | rw [o_errF0, o_mkTup (two rfl)]
  all_goals exact q _ _ _ get_new (App.one _)
/-- which kinds an error is -/
def kinds13 (i : Nat) : List D := (List.range 13).map fun k => D.bl (decide (k = i))
def due3 (w : Str) : List D := [.bl (!(w == "open")), .bl (!(w == "open")), .bl (w == "open")]
theorem kinds_ok {i : Nat} {w : Str × Str × Str} {l : Nat} {fs : List (Str × D)} {st : Store} {Q : D → Store → Prop} (hi : W13[i]? = some w) (h : st[l]? = some (.err w.2.1 fs)) (q : ∀ m st', st'[m]? = some (.lst (kinds13 i)) → App st st' → Q (.ref m) st') : Ev (F__law_kinds [.ref l] st) Q := by
  have hlt : i < 13 := (List.getElem?_eq_some_iff.mp hi).1
  have fit : ∀ {n : Nat}, n ≤ 20 → n ≤ LIM := fun h => Nat.le_trans h (by decide)
  have go : ∀ (b0 b1 b2 b3 b4 b5 b6 b7 b8 b9 b10 b11 b12 : Bool), tabis_InvalidProgram.lookup w.2.1 = some b0 → tabis_TooMany.lookup w.2.1 = some b1 → tabis_InvalidText.lookup w.2.1 = some b2 → tabis_InvalidLine.lookup w.2.1 = some b3 → tabis_NoStory.lookup w.2.1 = some b4 → tabis_TooGreat.lookup w.2.1 = some b5 →
      tabis_NotComparable.lookup w.2.1 = some b6 → tabis_NotLetIn.lookup w.2.1 = some b7 → tabis_NotWaiting.lookup w.2.1 = some b8 → tabis_Broken.lookup w.2.1 = some b9 → tabis_UnknownOpen.lookup w.2.1 = some b10 → tabis_Empty.lookup w.2.1 = some b11 → tabis_Busy.lookup w.2.1 = some b12 →
      kinds13 i = [.bl b0, .bl b1, .bl b2, .bl b3, .bl b4, .bl b5, .bl b6, .bl b7, .bl b8, .bl b9, .bl b10, .bl b11, .bl b12] → Ev (F__law_kinds [.ref l] st) Q := by
    intro b0 b1 b2 b3 b4 b5 b6 b7 b8 b9 b10 b11 b12 e0 e1 e2 e3 e4 e5 e6 e7 e8 e9 e10 e11 e12 ek
    simp only [F__law_kinds, ev_run, evs_nil, evs_seq, evs_ret, evs_retN, evs_expr, evs_if, evs_set, evs_par2, evs_par3, evs_sub, evs_match, evs_mnil, evs_mcons, evs_for, ev_c, ev_v, ev_op, ev_un, ev_val, ev_bl, ev_tnot, ev_tand, ev_tor, ev_not, ev_and, ev_or, ev_if, ev_chain, ev_nil, ev_cons, ev_b, ev_call, ev_callK, ev_none, ev_some, ev_sl, ev_mt, ev_knil, ev_kcons, ev_dic, ev_iseq, ev_lc, ev_yes, ev_range1, ev_enum, ev_ok, ev_okX, evs_raise, ev_inRg, List.map_cons, List.map_nil, List.length_cons, List.length_nil, List.replicate, List.cons_append, List.nil_append, List.getElem?_cons_zero, List.getElem?_cons_succ, List.set_cons_zero, List.set_cons_succ]
    rw [o_eis h e0, o_eis h e1, o_eis h e2, o_mkLst (fit (by show 3 ≤ 20; decide))]
    have a1 : App st (st ++ [O.lst [.bl b0, .bl b1, .bl b2]]) := App.one _
    have l1 : (st ++ [O.lst [.bl b0, .bl b1, .bl b2]])[st.length]? = some (.lst [.bl b0, .bl b1, .bl b2]) := get_new
    generalize st ++ [O.lst [.bl b0, .bl b1, .bl b2]] = s1 at a1 l1 ⊢
    have h1 := a1.get h
    rw [o_eis h1 e3, o_eis h1 e4, o_eis h1 e5, o_mkLst (fit (by show 3 ≤ 20; decide)), o_addL (get_app l1) get_new (fit (by show 3 + 3 ≤ 20; decide))]
    generalize hs2 : s1 ++ [O.lst [.bl b3, .bl b4, .bl b5]] ++ [O.lst ([D.bl b0, .bl b1, .bl b2] ++ [.bl b3, .bl b4, .bl b5])] = s2
    have a2 : App s1 s2 := by rw [← hs2]; exact (App.one _).trans (App.one _)
    have l2 : s2[(s1 ++ [O.lst [.bl b3, .bl b4, .bl b5]]).length]? = some (.lst [.bl b0, .bl b1, .bl b2, .bl b3, .bl b4, .bl b5]) := by rw [← hs2]; exact get_new
    have h2 := a2.get h1
    rw [o_eis h2 e6, o_eis h2 e7, o_eis h2 e8, o_mkLst (fit (by show 3 ≤ 20; decide)), o_addL (get_app l2) get_new (fit (by show 6 + 3 ≤ 20; decide))]
    generalize hs3 : s2 ++ [O.lst [.bl b6, .bl b7, .bl b8]] ++ [O.lst ([D.bl b0, .bl b1, .bl b2, .bl b3, .bl b4, .bl b5] ++ [.bl b6, .bl b7, .bl b8])] = s3
    have a3 : App s2 s3 := by rw [← hs3]; exact (App.one _).trans (App.one _)
    have l3 : s3[(s2 ++ [O.lst [.bl b6, .bl b7, .bl b8]]).length]? = some (.lst [.bl b0, .bl b1, .bl b2, .bl b3, .bl b4, .bl b5, .bl b6, .bl b7, .bl b8]) := by rw [← hs3]; exact get_new
    have h3 := a3.get h2
    rw [o_eis h3 e9, o_eis h3 e10, o_eis h3 e11, o_eis h3 e12, o_mkLst (fit (by show 4 ≤ 20; decide)), o_addL (get_app l3) get_new (fit (by show 9 + 4 ≤ 20; decide))]
    refine q _ _ ?_ (((a1.trans a2).trans a3).trans ((App.one _).trans (App.one _)))
    rw [ek]
    exact get_new
  have hw := hi
  have cases13 : i = 0 ∨ i = 1 ∨ i = 2 ∨ i = 3 ∨ i = 4 ∨ i = 5 ∨ i = 6 ∨ i = 7 ∨ i = 8 ∨ i = 9 ∨ i = 10 ∨ i = 11 ∨ i = 12 := by omega
  rcases cases13 with rfl | rfl | rfl | rfl | rfl | rfl | rfl | rfl | rfl | rfl | rfl | rfl | rfl
  all_goals cases hi
  all_goals exact go _ _ _ _ _ _ _ _ _ _ _ _ _ (by decide +kernel) (by decide +kernel) (by decide +kernel) (by decide +kernel) (by decide +kernel) (by decide +kernel) (by decide +kernel) (by decide +kernel) (by decide +kernel) (by decide +kernel) (by decide +kernel) (by decide +kernel) (by decide +kernel) rfl
end Mi
set_option Elab.async false
set_option linter.all false
set_option maxRecDepth 100000
set_option maxHeartbeats 1000000
/-! Kd: the law k01. -/
namespace Mi
open PySem
theorem bases_ok {i : Nat} {w : Str × Str × Str} {l : Nat} {fs : List (Str × D)} {st : Store} {Q : D → Store → Prop} (hi : W13[i]? = some w) (h : st[l]? = some (.err w.2.1 fs)) (q : ∀ m st', st'[m]? = some (.lst (due3 w.1)) → App st st' → Q (.ref m) st') : Ev (F__law_bases [.ref l] st) Q := by
  have go : ∀ (b0 b1 b2 : Bool), tabis_BreakError.lookup w.2.1 = some b0 → tabis_ValueError.lookup w.2.1 = some b1 → tabis_KeyError.lookup w.2.1 = some b2 → due3 w.1 = [.bl b0, .bl b1, .bl b2] → Ev (F__law_bases [.ref l] st) Q := by
    intro b0 b1 b2 e0 e1 e2 ek
    simp only [F__law_bases, ev_run, evs_nil, evs_seq, evs_ret, evs_retN, evs_expr, evs_if, evs_set, evs_par2, evs_par3, evs_sub, evs_match, evs_mnil, evs_mcons, evs_for, ev_c, ev_v, ev_op, ev_un, ev_val, ev_bl, ev_tnot, ev_tand, ev_tor, ev_not, ev_and, ev_or, ev_if, ev_chain, ev_nil, ev_cons, ev_b, ev_call, ev_callK, ev_none, ev_some, ev_sl, ev_mt, ev_knil, ev_kcons, ev_dic, ev_iseq, ev_lc, ev_yes, ev_range1, ev_enum, ev_ok, ev_okX, evs_raise, ev_inRg, List.map_cons, List.map_nil, List.length_cons, List.length_nil, List.replicate, List.cons_append, List.nil_append, List.getElem?_cons_zero, List.getElem?_cons_succ, List.set_cons_zero, List.set_cons_succ]
    rw [o_eis h e0, o_eis h e1, o_eis h e2, o_mkLst (by show 3 ≤ 16777216; decide)]
    refine q _ _ ?_ (App.one _)
    rw [ek]
    exact get_new
  have hlt : i < 13 := (List.getElem?_eq_some_iff.mp hi).1
  have cases13 : i = 0 ∨ i = 1 ∨ i = 2 ∨ i = 3 ∨ i = 4 ∨ i = 5 ∨ i = 6 ∨ i = 7 ∨ i = 8 ∨ i = 9 ∨ i = 10 ∨ i = 11 ∨ i = 12 := by omega
  have e1 : ∀ {a b c a' b' c' : Bool}, a = a' → b = b' → c = c' → ([.bl a, .bl b, .bl c] : List D) = [.bl a', .bl b', .bl c'] := fun h1 h2 h3 => by rw [h1, h2, h3]
  rcases cases13 with rfl | rfl | rfl | rfl | rfl | rfl | rfl | rfl | rfl | rfl | rfl | rfl | rfl
  all_goals cases hi
  all_goals first | exact go true true false (by decide +kernel) (by decide +kernel) (by decide +kernel) (e1 (by decide +kernel) (by decide +kernel) (by decide +kernel)) | exact go false false true (by decide +kernel) (by decide +kernel) (by decide +kernel) (e1 (by decide +kernel) (by decide +kernel) (by decide +kernel))
theorem eqz_bools {f : D → D → Option Bool} (h : ∀ b, f (.bl b) (.bl b) = some true) : ∀ bs : List Bool, eqZ f (bs.map D.bl) (bs.map D.bl) = some true
  | [] => rfl
  | b :: bs => by simp only [List.map_cons, eqZ, h, eqz_bools h bs]; rfl
theorem ne_bools {st : Store} {l m : Nat} {bs : List Bool} (h1 : st[l]? = some (.lst (bs.map D.bl))) (h2 : st[m]? = some (.lst (bs.map D.bl))) : neF (.ref l) (.ref m) st = some false := by
  obtain ⟨n, e⟩ := eqn_pos
  unfold neF
  have d1 : isDicF (.ref l) st = false := by unfold isDicF; dsimp only; rw [h1]
  have d2 : isDicF (.ref m) st = false := by unfold isDicF; dsimp only; rw [h2]
  rw [d1, d2, e]
  have : eqN (n + 1) st (.ref l) (.ref m) = some true := by
    unfold eqN
    dsimp only
    rw [h1]
    dsimp only
    rw [h2]
    dsimp only
    rw [if_pos rfl]
    refine eqz_bools (fun b => ?_) bs
    have hn : ∃ j, n = j + 1 := ⟨58, by have : EQN = 60 := rfl; omega⟩
    obtain ⟨j, rfl⟩ := hn
    cases b <;> rfl
  rw [this]
  rfl
theorem neF_str {st : Store} {a b : Str} : neF (.str a) (.str b) st = some (!(a == b)) := by
  have e := eqF_str (st := st) (a := a) (b := b)
  unfold eqF at e
  unfold neF
  rw [e]
  rfl
theorem kinds_bl (i : Nat) : kinds13 i = ((List.range 13).map fun k => decide (k = i)).map D.bl := by unfold kinds13; rw [List.map_map]; rfl
theorem due_bl (w : Str) : due3 w = ([!(w == "open"), !(w == "open"), w == "open"] : List Bool).map D.bl := rfl
theorem law_true : ∀ ns : List Int, ns.length ≤ 63 → ∃ st, F_law [.scr ns] [] = .ok (.bl true) st := by
  intro ns hns
  suffices h : Ev (F_law [.scr ns] []) fun d _ => d = .bl true by
    obtain ⟨d, st, e, rfl⟩ := h.get
    exact ⟨st, e⟩
  have lm : ∀ {j : Nat}, j ≤ 1000000 → j ≤ LIM := fun h => Nat.le_trans h (by decide)
  simp only [F_law, ev_run, evs_nil, evs_seq, evs_ret, evs_retN, evs_expr, evs_if, evs_set, evs_par2, evs_par3, evs_sub, evs_match, evs_mnil, evs_mcons, evs_for, ev_c, ev_v, ev_op, ev_un, ev_val, ev_bl, ev_tnot, ev_tand, ev_tor, ev_not, ev_and, ev_or, ev_if, ev_chain, ev_nil, ev_cons, ev_b, ev_call, ev_callK, ev_none, ev_some, ev_sl, ev_mt, ev_knil, ev_kcons, ev_dic, ev_iseq, ev_lc, ev_yes, ev_range1, ev_enum, ev_ok, ev_okX, evs_raise, ev_inRg, List.map_cons, List.map_nil, List.length_cons, List.length_nil, List.replicate, List.cons_append, List.nil_append, List.getElem?_cons_zero, List.getElem?_cons_succ, List.set_cons_zero, List.set_cons_succ, wipeR]
  refine deck_ok hns fun st0 h0 => ?_
  rw [o_mkLst (lm (by show 12 ≤ _; decide))]
  have hd1 := h0.app [O.lst ([.str "program", .str "many", .str "text", .str "line", .str "story", .str "great", .str "unlike", .str "out", .str "waiting", .str "broken", .str "open", .str "empty"] : List D)]
  have e1 : (st0 ++ [O.lst ([.str "program", .str "many", .str "text", .str "line", .str "story", .str "great", .str "unlike", .str "out", .str "waiting", .str "broken", .str "open", .str "empty"] : List D)])[st0.length]? = some (.lst ([.str "program", .str "many", .str "text", .str "line", .str "story", .str "great", .str "unlike", .str "out", .str "waiting", .str "broken", .str "open", .str "empty"] : List D)) := get_new
  have n1 := h0.new
  generalize hws : ([.str "program", .str "many", .str "text", .str "line", .str "story", .str "great", .str "unlike", .str "out", .str "waiting", .str "broken", .str "open", .str "empty"] : List D) = ws at hd1 e1 ⊢
  generalize st0 ++ [O.lst ws] = st1 at hd1 e1 ⊢
  generalize st0.length = l1 at e1 n1 ⊢
  refine ⟨by decide, ?_⟩
  have i3 : (rgItems 0 (Int.toNat 3)).length = 3 := by simp [rgItems]
  have wl : ws.length = 12 := by rw [← hws]; rfl
  have wapp : ws ++ [D.str "busy"] = W13.map fun w => D.str w.1 := by rw [← hws]; rfl
  refine evs_forGo (fun t p s => ∃ kk o3 o4 o5 o6 o7 o8 o9 o10 o11, p = [some (.scr ns), some (.ref 3), some (.ref l1), o3, o4, o5, o6, o7, o8, o9, o10, o11, none] ∧ Deck s kk ∧ kk ≤ t * 20000 ∧ s[l1]? = some (.lst ws)) _ 0 _ _ ⟨_, none, none, none, none, none, none, none, none, none, rfl, hd1, Nat.zero_le _, e1⟩ (fun _ _ _ _ _ _ => trivial) (fun t d p s _ hd hI => ?_) (fun p s hI => ?_)
  · obtain ⟨kk, o3, o4, o5, o6, o7, o8, o9, o10, o11, rfl, hs, hkk, es⟩ := hI
    have ht := (List.getElem?_eq_some_iff.mp hd).1
    rw [Nat.sub_zero, i3] at ht
    refine ⟨_, rfl, ?_⟩
    simp only [ev_run, evs_nil, evs_seq, evs_ret, evs_retN, evs_expr, evs_if, evs_set, evs_par2, evs_par3, evs_sub, evs_match, evs_mnil, evs_mcons, evs_for, ev_c, ev_v, ev_op, ev_un, ev_val, ev_bl, ev_tnot, ev_tand, ev_tor, ev_not, ev_and, ev_or, ev_if, ev_chain, ev_nil, ev_cons, ev_b, ev_call, ev_callK, ev_none, ev_some, ev_sl, ev_mt, ev_knil, ev_kcons, ev_dic, ev_iseq, ev_lc, ev_yes, ev_range1, ev_enum, ev_ok, ev_okX, evs_raise, ev_inRg, List.map_cons, List.map_nil, List.length_cons, List.length_nil, List.replicate, List.cons_append, List.nil_append, List.getElem?_cons_zero, List.getElem?_cons_succ, List.set_cons_zero, List.set_cons_succ, gNameF]
    rw [o_mkLst (lm (by show 1 ≤ _; decide)), o_addL (get_app es) get_new (lm (by rw [wl]; show 12 + 1 ≤ _; decide)), wapp]
    have hs2 := (hs.app [O.lst [D.str "busy"]]).app [O.lst (W13.map fun w => D.str w.1)]
    have es2 : (s ++ [O.lst [D.str "busy"]] ++ [O.lst (W13.map fun w => D.str w.1)])[l1]? = some (.lst ws) := get_app (get_app es)
    have el : (s ++ [O.lst [D.str "busy"]] ++ [O.lst (W13.map fun w => D.str w.1)])[(s ++ [O.lst [D.str "busy"]]).length]? = some (.lst (W13.map fun w => D.str w.1)) := get_new
    have nl := (hs.app [O.lst [D.str "busy"]]).new
    generalize s ++ [O.lst [D.str "busy"]] ++ [O.lst (W13.map fun w => D.str w.1)] = s2 at hs2 es2 el ⊢
    generalize (s ++ [O.lst [D.str "busy"]]).length = l2 at el nl ⊢
    dsimp only
    rw [el]
    dsimp only
    have en : (enItems (W13.map fun w => D.str w.1)).length = 13 := by unfold enItems; rfl
    refine evs_forGo (fun i p s => ∃ kk o4 o5 o6 o7 o8 o9 o10 o11, p = [some (.scr ns), some (.ref 3), some (.ref l1), some d, o4, o5, o6, o7, o8, o9, o10, o11, none] ∧ Deck s kk ∧ kk ≤ t * 20000 + i * 200 ∧ s[l1]? = some (.lst ws) ∧ s[l2]? = some (.lst (W13.map fun w => D.str w.1))) _ 0 _ _ ⟨_, o4, o5, o6, o7, o8, o9, o10, o11, rfl, hs2, by omega, es2, el⟩ (fun i p s _ _ hI => by obtain ⟨_, _, _, _, _, _, _, _, _, _, _, _, _, h⟩ := hI; exact h) (fun i dd p s _ hdd hI => ?_) (fun p s hI => ?_)
    · obtain ⟨kk, o4, o5, o6, o7, o8, o9, o10, o11, rfl, hs, hkk, es, el⟩ := hI
      have hi := (List.getElem?_eq_some_iff.mp hdd).1
      rw [Nat.sub_zero, en] at hi
      rw [Nat.sub_zero] at hdd
      obtain ⟨w, hw⟩ : ∃ w, W13[i]? = some w := ⟨W13[i]'(by show i < 13; exact hi), List.getElem?_eq_getElem _⟩
      have edd : dd = .tup [.int (i : Nat), .str w.1] := by
        unfold enItems at hdd
        rw [List.getElem?_map] at hdd
        obtain ⟨j, hj, rfl⟩ := Option.map_eq_some_iff.mp hdd
        obtain ⟨hj1, hj2⟩ := List.getElem?_eq_some_iff.mp hj
        rw [List.getElem_range] at hj2
        subst hj2
        rw [List.getD_eq_getElem?_getD, List.getElem?_map, hw]
        rfl
      subst edd
      have hvn : VN 3 = 93 := rfl
      refine ⟨_, tg_2, ?_⟩
      simp only [ev_run, evs_nil, evs_seq, evs_ret, evs_retN, evs_expr, evs_if, evs_set, evs_par2, evs_par3, evs_sub, evs_match, evs_mnil, evs_mcons, evs_for, ev_c, ev_v, ev_op, ev_un, ev_val, ev_bl, ev_tnot, ev_tand, ev_tor, ev_not, ev_and, ev_or, ev_if, ev_chain, ev_nil, ev_cons, ev_b, ev_call, ev_callK, ev_none, ev_some, ev_sl, ev_mt, ev_knil, ev_kcons, ev_dic, ev_iseq, ev_lc, ev_yes, ev_range1, ev_enum, ev_ok, ev_okX, evs_raise, ev_inRg, List.map_cons, List.map_nil, List.length_cons, List.length_nil, List.replicate, List.cons_append, List.nil_append, List.getElem?_cons_zero, List.getElem?_cons_succ, List.set_cons_zero, List.set_cons_succ]
      refine value_ok 3 60 (by decide) (by decide) hs (by omega) fun x s3 k3 vx hs3 hk3 g3 => ?_
      have es3 := g3.2 _ _ n1 es
      have el3 := g3.2 _ _ nl el
      refine repr_val vx (by decide) (by decide) fun z hz => ?_
      rw [o_opB neF_str, o_opB neF_str, o_opB eqF_str, o_mkLst (lm (by show 3 ≤ _; decide))]
      have a4 : App s3 (s3 ++ [O.lst (due3 w.1)]) := App.one _
      have ed : (s3 ++ [O.lst (due3 w.1)])[s3.length]? = some (.lst (due3 w.1)) := get_new
      have ob : (s3 ++ [O.lst [D.bl (!(w.1 == "open")), .bl (!(w.1 == "open")), .bl (w.1 == "open")]]) = s3 ++ [O.lst (due3 w.1)] := rfl
      rw [ob]
      generalize s3 ++ [O.lst (due3 w.1)] = s4 at a4 ed ⊢
      generalize s3.length = ld at ed ⊢
      rw [o_mkTup (lm (by show 2 ≤ _; decide))]
      dsimp only [itOf]
      rw [ev_okX]
      dsimp only
      refine evs_forGo (fun j p s => ∃ o7 o10 o11, p = [some (.scr ns), some (.ref 3), some (.ref l1), some d, some (.int (i : Nat)), some (.str w.1), some x, o7, some (.str z), some (.ref ld), o10, o11, none] ∧ App s4 s) _ 0 _ _ ⟨o7, o10, o11, rfl, App.refl⟩ (fun _ _ _ _ _ _ => trivial) (fun j db p s _ hdb hI => ?_) (fun p s hI => ?_)
      · obtain ⟨o7, o10, o11, rfl, ap⟩ := hI
        obtain ⟨b, rfl⟩ : ∃ b : Bool, db = .bl b := by
          have := List.mem_of_getElem? hdb
          simp only [List.mem_cons, List.not_mem_nil, or_false] at this
          rcases this with rfl | rfl
          · exact ⟨_, rfl⟩
          · exact ⟨_, rfl⟩
        refine ⟨_, rfl, ?_⟩
        simp only [ev_run, evs_nil, evs_seq, evs_ret, evs_retN, evs_expr, evs_if, evs_set, evs_par2, evs_par3, evs_sub, evs_match, evs_mnil, evs_mcons, evs_for, ev_c, ev_v, ev_op, ev_un, ev_val, ev_bl, ev_tnot, ev_tand, ev_tor, ev_not, ev_and, ev_or, ev_if, ev_chain, ev_nil, ev_cons, ev_b, ev_call, ev_callK, ev_none, ev_some, ev_sl, ev_mt, ev_knil, ev_kcons, ev_dic, ev_iseq, ev_lc, ev_yes, ev_range1, ev_enum, ev_ok, ev_okX, evs_raise, ev_inRg, List.map_cons, List.map_nil, List.length_cons, List.length_nil, List.replicate, List.cons_append, List.nil_append, List.getElem?_cons_zero, List.getElem?_cons_succ, List.set_cons_zero, List.set_cons_succ, gNameF, evs_asgT]
        refine made1_ok (List.mem_of_getElem? hw) fun le s5 fs ee a5 => ?_
        rw [tg_2]
        simp only [List.map_cons, List.map_nil, List.length_cons, List.length_nil, List.replicate, List.cons_append, List.nil_append, List.getElem?_cons_zero, List.getElem?_cons_succ, List.set_cons_zero, List.set_cons_succ]
        refine hz s5 ((a4.trans ap).trans a5).grow ?_
        rw [o_opB neF_str, beq_self_eq_true, ev_bl, if_neg (by decide)]
        refine kinds_ok hw ee fun m s6 em a6 => ?_
        refine ⟨by decide, ?_⟩
        have i13 : (rgItems 0 (Int.toNat 13)).length = 13 := by simp [rgItems]
        refine ev_comp (fun c acc s => acc = ((List.range 13).map fun k => D.bl (decide (k = i))).take c ∧ s = s6) _ 0 [] _ ⟨by simp, rfl⟩ (fun _ _ _ _ _ _ => trivial) (fun c dc acc s _ hdc hI => ?_) (fun ys s hI => ?_)
        · obtain ⟨rfl, rfl⟩ := hI
          have hc := (List.getElem?_eq_some_iff.mp hdc).1
          rw [Nat.sub_zero, i13] at hc
          have edc : dc = .int (c : Nat) := by
            rw [Nat.sub_zero] at hdc
            unfold rgItems at hdc
            rw [List.getElem?_map] at hdc
            obtain ⟨v, hv, rfl⟩ := Option.map_eq_some_iff.mp hdc
            obtain ⟨hv1, hv2⟩ := List.getElem?_eq_some_iff.mp hv
            rw [List.getElem_range] at hv2
            subst hv2
            congr 1
            omega
          subst edc
          refine ⟨_, rfl, ?_⟩
          simp only [ev_run, evs_nil, evs_seq, evs_ret, evs_retN, evs_expr, evs_if, evs_set, evs_par2, evs_par3, evs_sub, evs_match, evs_mnil, evs_mcons, evs_for, ev_c, ev_v, ev_op, ev_un, ev_val, ev_bl, ev_tnot, ev_tand, ev_tor, ev_not, ev_and, ev_or, ev_if, ev_chain, ev_nil, ev_cons, ev_b, ev_call, ev_callK, ev_none, ev_some, ev_sl, ev_mt, ev_knil, ev_kcons, ev_dic, ev_iseq, ev_lc, ev_yes, ev_range1, ev_enum, ev_ok, ev_okX, evs_raise, ev_inRg, List.map_cons, List.map_nil, List.length_cons, List.length_nil, List.replicate, List.cons_append, List.nil_append, List.getElem?_cons_zero, List.getElem?_cons_succ, List.set_cons_zero, List.set_cons_succ, gNameF, wipeR]
          rw [if_pos True.intro, o_opB eqF_int]
          refine ⟨?_, rfl⟩
          rw [List.take_add_one, List.getElem?_map, List.getElem?_range hc]
          have : (((c : Nat) : Int) == ((i : Nat) : Int)) = decide (c = i) := by
            rw [Bool.eq_iff_iff, beq_iff_eq, decide_eq_true_eq]
            omega
          rw [this]
          rfl
        · obtain ⟨hy, rfl⟩ := hI
          rw [List.nil_append, i13] at hy
          have hy : ys = kinds13 i := hy
          subst hy
          rw [o_mkLst (lm (by show 13 ≤ _; decide))]
          rw [o_opB (ne_bools (by rw [← kinds_bl]; exact get_app em) (by rw [← kinds_bl]; exact get_new)), ev_bl, if_neg (by decide)]
          refine bases_ok hw (get_app ((a6.get ee))) fun mb s7 eb a7 => ?_
          have ed7 : s7[ld]? = some (.lst (due3 w.1)) := a7.get (get_app (a6.get (a5.get (ap.get ed))))
          rw [o_opB (ne_bools (by rw [← due_bl]; exact eb) (by rw [← due_bl]; exact ed7)), ev_bl, if_neg (by decide)]
          exact ⟨_, _, _, rfl, (((ap.trans a5).trans a6).trans (App.one _)).trans a7⟩
      · obtain ⟨o7, o10, o11, rfl, ap⟩ := hI
        simp only [ev_run, evs_nil, evs_seq, evs_ret, evs_retN, evs_expr, evs_if, evs_set, evs_par2, evs_par3, evs_sub, evs_match, evs_mnil, evs_mcons, evs_for, ev_c, ev_v, ev_op, ev_un, ev_val, ev_bl, ev_tnot, ev_tand, ev_tor, ev_not, ev_and, ev_or, ev_if, ev_chain, ev_nil, ev_cons, ev_b, ev_call, ev_callK, ev_none, ev_some, ev_sl, ev_mt, ev_knil, ev_kcons, ev_dic, ev_iseq, ev_lc, ev_yes, ev_range1, ev_enum, ev_ok, ev_okX, evs_raise, ev_inRg, List.map_cons, List.map_nil, List.length_cons, List.length_nil, List.replicate, List.cons_append, List.nil_append, List.getElem?_cons_zero, List.getElem?_cons_succ, List.set_cons_zero, List.set_cons_succ]
        refine hz s (a4.trans ap).grow ?_
        rw [o_opB neF_str, beq_self_eq_true, ev_bl, if_neg (by decide)]
        exact ⟨k3, _, _, _, _, _, _, _, _, rfl, (a4.trans ap).deck hs3, by omega, (a4.trans ap).get es3, (a4.trans ap).get el3⟩
    · obtain ⟨kk, o4, o5, o6, o7, o8, o9, o10, o11, rfl, hs, hkk, es, el⟩ := hI
      rw [en] at hkk
      exact ⟨kk, _, _, _, _, _, _, _, _, _, rfl, hs, by omega, es⟩
  · obtain ⟨kk, o3, o4, o5, o6, o7, o8, o9, o10, o11, rfl, hs, hkk, es⟩ := hI
    simp only [ev_run, evs_nil, evs_seq, evs_ret, evs_retN, evs_expr, evs_if, evs_set, evs_par2, evs_par3, evs_sub, evs_match, evs_mnil, evs_mcons, evs_for, ev_c, ev_v, ev_op, ev_un, ev_val, ev_bl, ev_tnot, ev_tand, ev_tor, ev_not, ev_and, ev_or, ev_if, ev_chain, ev_nil, ev_cons, ev_b, ev_call, ev_callK, ev_none, ev_some, ev_sl, ev_mt, ev_knil, ev_kcons, ev_dic, ev_iseq, ev_lc, ev_yes, ev_range1, ev_enum, ev_ok, ev_okX, evs_raise, ev_inRg, List.map_cons, List.map_nil, List.length_cons, List.length_nil, List.replicate, List.cons_append, List.nil_append, List.getElem?_cons_zero, List.getElem?_cons_succ, List.set_cons_zero, List.set_cons_succ]
end Mi
open PySem PySem.W PyProof.Rows
set_option Elab.async false
set_option maxRecDepth 100000 in
set_option maxHeartbeats 0 in
theorem PySem.Challenge.cw_breakins_k01_errors_holds : PySem.Challenge.rw_breakins_k01_errors.Holds := by
  w_on; o_law; k_head; (case hw => w_witness2)
  k_fill
  refine Mi.walkG (l := PySem.Challenge.rw_breakins_k01_errors) (k := 62) (x := "_law_script") rfl rfl ⟨rfl, by decide, by decide⟩ (by rfl) (fun w h Y => PySem.W.kIn_of Y) ?F
  case F =>
    intro w mg fa h KX G hmg
    refine' Mi.end_F hmg ⟨_, _, Mi.ff_mk KX G ?a0 ?l0 ?c0 ?k0, _, _, Mi.ff_mk KX G ?a1 ?l1 ?c1 ?k1, _, _, Mi.ff_mk KX G ?a2 ?l2 ?c2 ?k2, _, _, Mi.ff_mk KX G ?a3 ?l3 ?c3 ?k3, _, _, Mi.ff_mk KX G ?a4 ?l4 ?c4 ?k4, _, _, Mi.ff_mk KX G ?a5 ?l5 ?c5 ?k5, _, _, Mi.ff_mk KX G ?a6 ?l6 ?c6 ?k6, _, _, Mi.ff_mk KX G ?a7 ?l7 ?c7 ?k7, _, Mi.bc_mk KX G ?B_BreakError_a ?B_BreakError_k ?B_BreakError_r ?B_BreakError_s ?B_BreakError_v, _, _, _, Mi.xc_mk KX G ?X_InvalidProgram_a ?X_InvalidProgram_lC ?X_InvalidProgram_rV ?X_InvalidProgram_sa ?X_InvalidProgram_exC ?X_InvalidProgram_tyC ?X_InvalidProgram_kC ?X_InvalidProgram_hg ?X_InvalidProgram_hk ?X_InvalidProgram_hd ?X_InvalidProgram_ha ?X_InvalidProgram_hn ?X_InvalidProgram_ht ?X_InvalidProgram_hm ?X_InvalidProgram_iC ?X_InvalidProgram_iF ?X_InvalidProgram_l ?X_InvalidProgram_c ?X_InvalidProgram_k, ?h_InvalidProgram_h, _, _, _, Mi.xc_mk KX G ?X_TooMany_a ?X_TooMany_lC ?X_TooMany_rV ?X_TooMany_sa ?X_TooMany_exC ?X_TooMany_tyC ?X_TooMany_kC ?X_TooMany_hg ?X_TooMany_hk ?X_TooMany_hd ?X_TooMany_ha ?X_TooMany_hn ?X_TooMany_ht ?X_TooMany_hm ?X_TooMany_iC ?X_TooMany_iF ?X_TooMany_l ?X_TooMany_c ?X_TooMany_k, ?h_TooMany_h, _, _, _, Mi.xc_mk KX G ?X_InvalidText_a ?X_InvalidText_lC ?X_InvalidText_rV ?X_InvalidText_sa ?X_InvalidText_exC ?X_InvalidText_tyC ?X_InvalidText_kC ?X_InvalidText_hg ?X_InvalidText_hk ?X_InvalidText_hd ?X_InvalidText_ha ?X_InvalidText_hn ?X_InvalidText_ht ?X_InvalidText_hm ?X_InvalidText_iC ?X_InvalidText_iF ?X_InvalidText_l ?X_InvalidText_c ?X_InvalidText_k, ?h_InvalidText_h, _, _, _, Mi.xc_mk KX G ?X_InvalidLine_a ?X_InvalidLine_lC ?X_InvalidLine_rV ?X_InvalidLine_sa ?X_InvalidLine_exC ?X_InvalidLine_tyC ?X_InvalidLine_kC ?X_InvalidLine_hg ?X_InvalidLine_hk ?X_InvalidLine_hd ?X_InvalidLine_ha ?X_InvalidLine_hn ?X_InvalidLine_ht ?X_InvalidLine_hm ?X_InvalidLine_iC ?X_InvalidLine_iF ?X_InvalidLine_l ?X_InvalidLine_c ?X_InvalidLine_k, ?h_InvalidLine_h, _, _, _, Mi.xc_mk KX G ?X_NoStory_a ?X_NoStory_lC ?X_NoStory_rV ?X_NoStory_sa ?X_NoStory_exC ?X_NoStory_tyC ?X_NoStory_kC ?X_NoStory_hg ?X_NoStory_hk ?X_NoStory_hd ?X_NoStory_ha ?X_NoStory_hn ?X_NoStory_ht ?X_NoStory_hm ?X_NoStory_iC ?X_NoStory_iF ?X_NoStory_l ?X_NoStory_c ?X_NoStory_k, ?h_NoStory_h, _, _, _, Mi.xc_mk KX G ?X_TooGreat_a ?X_TooGreat_lC ?X_TooGreat_rV ?X_TooGreat_sa ?X_TooGreat_exC ?X_TooGreat_tyC ?X_TooGreat_kC ?X_TooGreat_hg ?X_TooGreat_hk ?X_TooGreat_hd ?X_TooGreat_ha ?X_TooGreat_hn ?X_TooGreat_ht ?X_TooGreat_hm ?X_TooGreat_iC ?X_TooGreat_iF ?X_TooGreat_l ?X_TooGreat_c ?X_TooGreat_k, ?h_TooGreat_h, _, _, _, Mi.xc_mk KX G ?X_NotComparable_a ?X_NotComparable_lC ?X_NotComparable_rV ?X_NotComparable_sa ?X_NotComparable_exC ?X_NotComparable_tyC ?X_NotComparable_kC ?X_NotComparable_hg ?X_NotComparable_hk ?X_NotComparable_hd ?X_NotComparable_ha ?X_NotComparable_hn ?X_NotComparable_ht ?X_NotComparable_hm ?X_NotComparable_iC ?X_NotComparable_iF ?X_NotComparable_l ?X_NotComparable_c ?X_NotComparable_k, ?h_NotComparable_h, _, _, _, Mi.xc_mk KX G ?X_NotLetIn_a ?X_NotLetIn_lC ?X_NotLetIn_rV ?X_NotLetIn_sa ?X_NotLetIn_exC ?X_NotLetIn_tyC ?X_NotLetIn_kC ?X_NotLetIn_hg ?X_NotLetIn_hk ?X_NotLetIn_hd ?X_NotLetIn_ha ?X_NotLetIn_hn ?X_NotLetIn_ht ?X_NotLetIn_hm ?X_NotLetIn_iC ?X_NotLetIn_iF ?X_NotLetIn_l ?X_NotLetIn_c ?X_NotLetIn_k, ?h_NotLetIn_h, _, _, _, Mi.xc_mk KX G ?X_NotWaiting_a ?X_NotWaiting_lC ?X_NotWaiting_rV ?X_NotWaiting_sa ?X_NotWaiting_exC ?X_NotWaiting_tyC ?X_NotWaiting_kC ?X_NotWaiting_hg ?X_NotWaiting_hk ?X_NotWaiting_hd ?X_NotWaiting_ha ?X_NotWaiting_hn ?X_NotWaiting_ht ?X_NotWaiting_hm ?X_NotWaiting_iC ?X_NotWaiting_iF ?X_NotWaiting_l ?X_NotWaiting_c ?X_NotWaiting_k, ?h_NotWaiting_h, _, _, _, Mi.xc_mk KX G ?X_Broken_a ?X_Broken_lC ?X_Broken_rV ?X_Broken_sa ?X_Broken_exC ?X_Broken_tyC ?X_Broken_kC ?X_Broken_hg ?X_Broken_hk ?X_Broken_hd ?X_Broken_ha ?X_Broken_hn ?X_Broken_ht ?X_Broken_hm ?X_Broken_iC ?X_Broken_iF ?X_Broken_l ?X_Broken_c ?X_Broken_k, ?h_Broken_h, _, _, _, Mi.xk_mk KX G ?X_UnknownOpen_a ?X_UnknownOpen_lC ?X_UnknownOpen_sa ?X_UnknownOpen_exC ?X_UnknownOpen_kC ?X_UnknownOpen_hg ?X_UnknownOpen_hk ?X_UnknownOpen_hd ?X_UnknownOpen_ha ?X_UnknownOpen_hn ?X_UnknownOpen_ht ?X_UnknownOpen_hm ?X_UnknownOpen_iC ?X_UnknownOpen_iF ?X_UnknownOpen_l ?X_UnknownOpen_c ?X_UnknownOpen_k, ?v_UnknownOpen_h, ?h_UnknownOpen_h, _, _, _, Mi.xc_mk KX G ?X_Empty_a ?X_Empty_lC ?X_Empty_rV ?X_Empty_sa ?X_Empty_exC ?X_Empty_tyC ?X_Empty_kC ?X_Empty_hg ?X_Empty_hk ?X_Empty_hd ?X_Empty_ha ?X_Empty_hn ?X_Empty_ht ?X_Empty_hm ?X_Empty_iC ?X_Empty_iF ?X_Empty_l ?X_Empty_c ?X_Empty_k, _, _, _, Mi.xc_mk KX G ?X_Busy_a ?X_Busy_lC ?X_Busy_rV ?X_Busy_sa ?X_Busy_exC ?X_Busy_tyC ?X_Busy_kC ?X_Busy_hg ?X_Busy_hk ?X_Busy_hd ?X_Busy_ha ?X_Busy_hn ?X_Busy_ht ?X_Busy_hm ?X_Busy_iC ?X_Busy_iF ?X_Busy_l ?X_Busy_c ?X_Busy_k, _, Mi.cd_mk KX G ?D_InvalidText_a ?D_InvalidText_i ?D_InvalidText_t, _, Mi.cd_mk KX G ?D_TooMany_a ?D_TooMany_i ?D_TooMany_t, _, Mi.cd_mk KX G ?D_InvalidProgram_a ?D_InvalidProgram_i ?D_InvalidProgram_t, _, Mi.cd_mk KX G ?D_TooGreat_a ?D_TooGreat_i ?D_TooGreat_t, _, Mi.cd_mk KX G ?D_NoStory_a ?D_NoStory_i ?D_NoStory_t, _, Mi.cd_mk KX G ?D_InvalidLine_a ?D_InvalidLine_i ?D_InvalidLine_t, _, Mi.cd_mk KX G ?D_NotWaiting_a ?D_NotWaiting_i ?D_NotWaiting_t, _, Mi.cd_mk KX G ?D_NotLetIn_a ?D_NotLetIn_i ?D_NotLetIn_t, _, Mi.cd_mk KX G ?D_NotComparable_a ?D_NotComparable_i ?D_NotComparable_t, _, Mi.cd_mk KX G ?D_Busy_a ?D_Busy_i ?D_Busy_t, _, Mi.cd_mk KX G ?D_Empty_a ?D_Empty_i ?D_Empty_t, _, Mi.cd_mk KX G ?D_UnknownOpen_a ?D_UnknownOpen_i ?D_UnknownOpen_t, _, Mi.cd_mk KX G ?D_Broken_a ?D_Broken_i ?D_Broken_t, _, Mi.cd_mk KX G ?D_BreakError_a ?D_BreakError_i ?D_BreakError_t, ?s_InvalidProgram_InvalidText_h, ?r_InvalidProgram_InvalidText_h, ?s_InvalidProgram_TooMany_h, ?r_InvalidProgram_TooMany_h, ?s_InvalidProgram_InvalidProgram_h, ?s_InvalidProgram_TooGreat_h, ?r_InvalidProgram_TooGreat_h, ?s_InvalidProgram_NoStory_h, ?r_InvalidProgram_NoStory_h, ?s_InvalidProgram_InvalidLine_h, ?r_InvalidProgram_InvalidLine_h, ?s_InvalidProgram_NotWaiting_h, ?r_InvalidProgram_NotWaiting_h, ?s_InvalidProgram_NotLetIn_h, ?r_InvalidProgram_NotLetIn_h, ?s_InvalidProgram_NotComparable_h, ?r_InvalidProgram_NotComparable_h, ?s_InvalidProgram_Busy_h, ?r_InvalidProgram_Busy_h, ?s_InvalidProgram_Empty_h, ?r_InvalidProgram_Empty_h, ?s_InvalidProgram_UnknownOpen_h, ?r_InvalidProgram_UnknownOpen_h, ?s_InvalidProgram_Broken_h, ?r_InvalidProgram_Broken_h, ?s_InvalidProgram_BreakError_h, ?s_InvalidProgram_KeyError_h, ?s_InvalidProgram_ValueError_h, ?s_TooMany_InvalidText_h, ?r_TooMany_InvalidText_h, ?s_TooMany_TooMany_h, ?s_TooMany_InvalidProgram_h, ?r_TooMany_InvalidProgram_h, ?s_TooMany_TooGreat_h, ?r_TooMany_TooGreat_h, ?s_TooMany_NoStory_h, ?r_TooMany_NoStory_h, ?s_TooMany_InvalidLine_h, ?r_TooMany_InvalidLine_h, ?s_TooMany_NotWaiting_h, ?r_TooMany_NotWaiting_h, ?s_TooMany_NotLetIn_h, ?r_TooMany_NotLetIn_h, ?s_TooMany_NotComparable_h, ?r_TooMany_NotComparable_h, ?s_TooMany_Busy_h, ?r_TooMany_Busy_h, ?s_TooMany_Empty_h, ?r_TooMany_Empty_h, ?s_TooMany_UnknownOpen_h, ?r_TooMany_UnknownOpen_h, ?s_TooMany_Broken_h, ?r_TooMany_Broken_h, ?s_TooMany_BreakError_h, ?s_TooMany_KeyError_h, ?s_TooMany_ValueError_h, ?s_InvalidText_InvalidText_h, ?s_InvalidText_TooMany_h, ?r_InvalidText_TooMany_h, ?s_InvalidText_InvalidProgram_h, ?r_InvalidText_InvalidProgram_h, ?s_InvalidText_TooGreat_h, ?r_InvalidText_TooGreat_h, ?s_InvalidText_NoStory_h, ?r_InvalidText_NoStory_h, ?s_InvalidText_InvalidLine_h, ?r_InvalidText_InvalidLine_h, ?s_InvalidText_NotWaiting_h, ?r_InvalidText_NotWaiting_h, ?s_InvalidText_NotLetIn_h, ?r_InvalidText_NotLetIn_h, ?s_InvalidText_NotComparable_h, ?r_InvalidText_NotComparable_h, ?s_InvalidText_Busy_h, ?r_InvalidText_Busy_h, ?s_InvalidText_Empty_h, ?r_InvalidText_Empty_h, ?s_InvalidText_UnknownOpen_h, ?r_InvalidText_UnknownOpen_h, ?s_InvalidText_Broken_h, ?r_InvalidText_Broken_h, ?s_InvalidText_BreakError_h, ?s_InvalidText_KeyError_h, ?s_InvalidText_ValueError_h, ?s_InvalidLine_InvalidText_h, ?r_InvalidLine_InvalidText_h, ?s_InvalidLine_TooMany_h, ?r_InvalidLine_TooMany_h, ?s_InvalidLine_InvalidProgram_h, ?r_InvalidLine_InvalidProgram_h, ?s_InvalidLine_TooGreat_h, ?r_InvalidLine_TooGreat_h, ?s_InvalidLine_NoStory_h, ?r_InvalidLine_NoStory_h, ?s_InvalidLine_InvalidLine_h, ?s_InvalidLine_NotWaiting_h, ?r_InvalidLine_NotWaiting_h, ?s_InvalidLine_NotLetIn_h, ?r_InvalidLine_NotLetIn_h, ?s_InvalidLine_NotComparable_h, ?r_InvalidLine_NotComparable_h, ?s_InvalidLine_Busy_h, ?r_InvalidLine_Busy_h, ?s_InvalidLine_Empty_h, ?r_InvalidLine_Empty_h, ?s_InvalidLine_UnknownOpen_h, ?r_InvalidLine_UnknownOpen_h, ?s_InvalidLine_Broken_h, ?r_InvalidLine_Broken_h, ?s_InvalidLine_BreakError_h, ?s_InvalidLine_KeyError_h, ?s_InvalidLine_ValueError_h, ?s_NoStory_InvalidText_h, ?r_NoStory_InvalidText_h, ?s_NoStory_TooMany_h, ?r_NoStory_TooMany_h, ?s_NoStory_InvalidProgram_h, ?r_NoStory_InvalidProgram_h, ?s_NoStory_TooGreat_h, ?r_NoStory_TooGreat_h, ?s_NoStory_NoStory_h, ?s_NoStory_InvalidLine_h, ?r_NoStory_InvalidLine_h, ?s_NoStory_NotWaiting_h, ?r_NoStory_NotWaiting_h, ?s_NoStory_NotLetIn_h, ?r_NoStory_NotLetIn_h, ?s_NoStory_NotComparable_h, ?r_NoStory_NotComparable_h, ?s_NoStory_Busy_h, ?r_NoStory_Busy_h, ?s_NoStory_Empty_h, ?r_NoStory_Empty_h, ?s_NoStory_UnknownOpen_h, ?r_NoStory_UnknownOpen_h, ?s_NoStory_Broken_h, ?r_NoStory_Broken_h, ?s_NoStory_BreakError_h, ?s_NoStory_KeyError_h, ?s_NoStory_ValueError_h, ?s_TooGreat_InvalidText_h, ?r_TooGreat_InvalidText_h, ?s_TooGreat_TooMany_h, ?r_TooGreat_TooMany_h, ?s_TooGreat_InvalidProgram_h, ?r_TooGreat_InvalidProgram_h, ?s_TooGreat_TooGreat_h, ?s_TooGreat_NoStory_h, ?r_TooGreat_NoStory_h, ?s_TooGreat_InvalidLine_h, ?r_TooGreat_InvalidLine_h, ?s_TooGreat_NotWaiting_h, ?r_TooGreat_NotWaiting_h, ?s_TooGreat_NotLetIn_h, ?r_TooGreat_NotLetIn_h, ?s_TooGreat_NotComparable_h, ?r_TooGreat_NotComparable_h, ?s_TooGreat_Busy_h, ?r_TooGreat_Busy_h, ?s_TooGreat_Empty_h, ?r_TooGreat_Empty_h, ?s_TooGreat_UnknownOpen_h, ?r_TooGreat_UnknownOpen_h, ?s_TooGreat_Broken_h, ?r_TooGreat_Broken_h, ?s_TooGreat_BreakError_h, ?s_TooGreat_KeyError_h, ?s_TooGreat_ValueError_h, ?s_NotComparable_InvalidText_h, ?r_NotComparable_InvalidText_h, ?s_NotComparable_TooMany_h, ?r_NotComparable_TooMany_h, ?s_NotComparable_InvalidProgram_h, ?r_NotComparable_InvalidProgram_h, ?s_NotComparable_TooGreat_h, ?r_NotComparable_TooGreat_h, ?s_NotComparable_NoStory_h, ?r_NotComparable_NoStory_h, ?s_NotComparable_InvalidLine_h, ?r_NotComparable_InvalidLine_h, ?s_NotComparable_NotWaiting_h, ?r_NotComparable_NotWaiting_h, ?s_NotComparable_NotLetIn_h, ?r_NotComparable_NotLetIn_h, ?s_NotComparable_NotComparable_h, ?s_NotComparable_Busy_h, ?r_NotComparable_Busy_h, ?s_NotComparable_Empty_h, ?r_NotComparable_Empty_h, ?s_NotComparable_UnknownOpen_h, ?r_NotComparable_UnknownOpen_h, ?s_NotComparable_Broken_h, ?r_NotComparable_Broken_h, ?s_NotComparable_BreakError_h, ?s_NotComparable_KeyError_h, ?s_NotComparable_ValueError_h, ?s_NotLetIn_InvalidText_h, ?r_NotLetIn_InvalidText_h, ?s_NotLetIn_TooMany_h, ?r_NotLetIn_TooMany_h, ?s_NotLetIn_InvalidProgram_h, ?r_NotLetIn_InvalidProgram_h, ?s_NotLetIn_TooGreat_h, ?r_NotLetIn_TooGreat_h, ?s_NotLetIn_NoStory_h, ?r_NotLetIn_NoStory_h, ?s_NotLetIn_InvalidLine_h, ?r_NotLetIn_InvalidLine_h, ?s_NotLetIn_NotWaiting_h, ?r_NotLetIn_NotWaiting_h, ?s_NotLetIn_NotLetIn_h, ?s_NotLetIn_NotComparable_h, ?r_NotLetIn_NotComparable_h, ?s_NotLetIn_Busy_h, ?r_NotLetIn_Busy_h, ?s_NotLetIn_Empty_h, ?r_NotLetIn_Empty_h, ?s_NotLetIn_UnknownOpen_h, ?r_NotLetIn_UnknownOpen_h, ?s_NotLetIn_Broken_h, ?r_NotLetIn_Broken_h, ?s_NotLetIn_BreakError_h, ?s_NotLetIn_KeyError_h, ?s_NotLetIn_ValueError_h, ?s_NotWaiting_InvalidText_h, ?r_NotWaiting_InvalidText_h, ?s_NotWaiting_TooMany_h, ?r_NotWaiting_TooMany_h, ?s_NotWaiting_InvalidProgram_h, ?r_NotWaiting_InvalidProgram_h, ?s_NotWaiting_TooGreat_h, ?r_NotWaiting_TooGreat_h, ?s_NotWaiting_NoStory_h, ?r_NotWaiting_NoStory_h, ?s_NotWaiting_InvalidLine_h, ?r_NotWaiting_InvalidLine_h, ?s_NotWaiting_NotWaiting_h, ?s_NotWaiting_NotLetIn_h, ?r_NotWaiting_NotLetIn_h, ?s_NotWaiting_NotComparable_h, ?r_NotWaiting_NotComparable_h, ?s_NotWaiting_Busy_h, ?r_NotWaiting_Busy_h, ?s_NotWaiting_Empty_h, ?r_NotWaiting_Empty_h, ?s_NotWaiting_UnknownOpen_h, ?r_NotWaiting_UnknownOpen_h, ?s_NotWaiting_Broken_h, ?r_NotWaiting_Broken_h, ?s_NotWaiting_BreakError_h, ?s_NotWaiting_KeyError_h, ?s_NotWaiting_ValueError_h, ?s_Broken_InvalidText_h, ?r_Broken_InvalidText_h, ?s_Broken_TooMany_h, ?r_Broken_TooMany_h, ?s_Broken_InvalidProgram_h, ?r_Broken_InvalidProgram_h, ?s_Broken_TooGreat_h, ?r_Broken_TooGreat_h, ?s_Broken_NoStory_h, ?r_Broken_NoStory_h, ?s_Broken_InvalidLine_h, ?r_Broken_InvalidLine_h, ?s_Broken_NotWaiting_h, ?r_Broken_NotWaiting_h, ?s_Broken_NotLetIn_h, ?r_Broken_NotLetIn_h, ?s_Broken_NotComparable_h, ?r_Broken_NotComparable_h, ?s_Broken_Busy_h, ?r_Broken_Busy_h, ?s_Broken_Empty_h, ?r_Broken_Empty_h, ?s_Broken_UnknownOpen_h, ?r_Broken_UnknownOpen_h, ?s_Broken_Broken_h, ?s_Broken_BreakError_h, ?s_Broken_KeyError_h, ?s_Broken_ValueError_h, ?s_UnknownOpen_InvalidText_h, ?r_UnknownOpen_InvalidText_h, ?s_UnknownOpen_TooMany_h, ?r_UnknownOpen_TooMany_h, ?s_UnknownOpen_InvalidProgram_h, ?r_UnknownOpen_InvalidProgram_h, ?s_UnknownOpen_TooGreat_h, ?r_UnknownOpen_TooGreat_h, ?s_UnknownOpen_NoStory_h, ?r_UnknownOpen_NoStory_h, ?s_UnknownOpen_InvalidLine_h, ?r_UnknownOpen_InvalidLine_h, ?s_UnknownOpen_NotWaiting_h, ?r_UnknownOpen_NotWaiting_h, ?s_UnknownOpen_NotLetIn_h, ?r_UnknownOpen_NotLetIn_h, ?s_UnknownOpen_NotComparable_h, ?r_UnknownOpen_NotComparable_h, ?s_UnknownOpen_Busy_h, ?r_UnknownOpen_Busy_h, ?s_UnknownOpen_Empty_h, ?r_UnknownOpen_Empty_h, ?s_UnknownOpen_UnknownOpen_h, ?s_UnknownOpen_Broken_h, ?r_UnknownOpen_Broken_h, ?s_UnknownOpen_BreakError_h, ?r_UnknownOpen_BreakError_h, ?s_UnknownOpen_KeyError_h, ?s_UnknownOpen_ValueError_h, ?s_Empty_InvalidText_h, ?r_Empty_InvalidText_h, ?s_Empty_TooMany_h, ?r_Empty_TooMany_h, ?s_Empty_InvalidProgram_h, ?r_Empty_InvalidProgram_h, ?s_Empty_TooGreat_h, ?r_Empty_TooGreat_h, ?s_Empty_NoStory_h, ?r_Empty_NoStory_h, ?s_Empty_InvalidLine_h, ?r_Empty_InvalidLine_h, ?s_Empty_NotWaiting_h, ?r_Empty_NotWaiting_h, ?s_Empty_NotLetIn_h, ?r_Empty_NotLetIn_h, ?s_Empty_NotComparable_h, ?r_Empty_NotComparable_h, ?s_Empty_Busy_h, ?r_Empty_Busy_h, ?s_Empty_Empty_h, ?s_Empty_UnknownOpen_h, ?r_Empty_UnknownOpen_h, ?s_Empty_Broken_h, ?r_Empty_Broken_h, ?s_Empty_BreakError_h, ?s_Empty_KeyError_h, ?s_Empty_ValueError_h, ?s_Busy_InvalidText_h, ?r_Busy_InvalidText_h, ?s_Busy_TooMany_h, ?r_Busy_TooMany_h, ?s_Busy_InvalidProgram_h, ?r_Busy_InvalidProgram_h, ?s_Busy_TooGreat_h, ?r_Busy_TooGreat_h, ?s_Busy_NoStory_h, ?r_Busy_NoStory_h, ?s_Busy_InvalidLine_h, ?r_Busy_InvalidLine_h, ?s_Busy_NotWaiting_h, ?r_Busy_NotWaiting_h, ?s_Busy_NotLetIn_h, ?r_Busy_NotLetIn_h, ?s_Busy_NotComparable_h, ?r_Busy_NotComparable_h, ?s_Busy_Busy_h, ?s_Busy_Empty_h, ?r_Busy_Empty_h, ?s_Busy_UnknownOpen_h, ?r_Busy_UnknownOpen_h, ?s_Busy_Broken_h, ?r_Busy_Broken_h, ?s_Busy_BreakError_h, ?s_Busy_KeyError_h, ?s_Busy_ValueError_h, PySem.W.mg_none_of KX G ?z0, PySem.W.mg_none_of KX G ?z1, PySem.W.mg_none_of KX G ?z2, PySem.W.mg_none_of KX G ?z3, PySem.W.mg_none_of KX G ?z4, PySem.W.mg_none_of KX G ?z5, PySem.W.mg_none_of KX G ?z6, PySem.W.mg_none_of KX G ?z7⟩ Mi.law_true
    (case a0 => k_is); (case l0 => k_is); (case c0 => k_is); (case k0 => k_is)
    (case a1 => k_is); (case l1 => k_is); (case c1 => k_is); (case k1 => k_is)
    (case a2 => k_is); (case l2 => k_is); (case c2 => k_is); (case k2 => k_is)
    (case a3 => k_is); (case l3 => k_is); (case c3 => k_is); (case k3 => k_is)
    (case a4 => k_is); (case l4 => k_is); (case c4 => k_is); (case k4 => k_is)
    (case a5 => k_is); (case l5 => k_is); (case c5 => k_is); (case k5 => k_is)
    (case a6 => k_is); (case l6 => k_is); (case c6 => k_is); (case k6 => k_is)
    (case a7 => k_is); (case l7 => k_is); (case c7 => k_is); (case k7 => k_is)
    (case B_BreakError_a => k_is); (case B_BreakError_k => k_is); (case B_BreakError_r => k_is); (case B_BreakError_s => k_is); (case B_BreakError_v => k_is)
    (case X_InvalidProgram_a => k_is); (case X_InvalidProgram_lC => k_is); (case X_InvalidProgram_rV => rfl); (case X_InvalidProgram_sa => k_is); (case X_InvalidProgram_exC => k_is); (case X_InvalidProgram_tyC => k_is); (case X_InvalidProgram_kC => k_is); (case X_InvalidProgram_hg => k_is); (case X_InvalidProgram_hk => k_is); (case X_InvalidProgram_hd => k_is); (case X_InvalidProgram_ha => k_is); (case X_InvalidProgram_hn => k_is); (case X_InvalidProgram_ht => k_is); (case X_InvalidProgram_hm => k_is); (case X_InvalidProgram_iC => k_is); (case X_InvalidProgram_iF => k_is); (case X_InvalidProgram_l => k_is); (case X_InvalidProgram_c => k_is); (case X_InvalidProgram_k => k_is)
    (case h_InvalidProgram_h => k_is)
    (case X_TooMany_a => k_is); (case X_TooMany_lC => k_is); (case X_TooMany_rV => rfl); (case X_TooMany_sa => k_is); (case X_TooMany_exC => k_is); (case X_TooMany_tyC => k_is); (case X_TooMany_kC => k_is); (case X_TooMany_hg => k_is); (case X_TooMany_hk => k_is); (case X_TooMany_hd => k_is); (case X_TooMany_ha => k_is); (case X_TooMany_hn => k_is); (case X_TooMany_ht => k_is); (case X_TooMany_hm => k_is); (case X_TooMany_iC => k_is); (case X_TooMany_iF => k_is); (case X_TooMany_l => k_is); (case X_TooMany_c => k_is); (case X_TooMany_k => k_is)
    (case h_TooMany_h => k_is)
    (case X_InvalidText_a => k_is); (case X_InvalidText_lC => k_is); (case X_InvalidText_rV => rfl); (case X_InvalidText_sa => k_is); (case X_InvalidText_exC => k_is); (case X_InvalidText_tyC => k_is); (case X_InvalidText_kC => k_is); (case X_InvalidText_hg => k_is); (case X_InvalidText_hk => k_is); (case X_InvalidText_hd => k_is); (case X_InvalidText_ha => k_is); (case X_InvalidText_hn => k_is); (case X_InvalidText_ht => k_is); (case X_InvalidText_hm => k_is); (case X_InvalidText_iC => k_is); (case X_InvalidText_iF => k_is); (case X_InvalidText_l => k_is); (case X_InvalidText_c => k_is); (case X_InvalidText_k => k_is)
    (case h_InvalidText_h => k_is)
    (case X_InvalidLine_a => k_is); (case X_InvalidLine_lC => k_is); (case X_InvalidLine_rV => rfl); (case X_InvalidLine_sa => k_is); (case X_InvalidLine_exC => k_is); (case X_InvalidLine_tyC => k_is); (case X_InvalidLine_kC => k_is); (case X_InvalidLine_hg => k_is); (case X_InvalidLine_hk => k_is); (case X_InvalidLine_hd => k_is); (case X_InvalidLine_ha => k_is); (case X_InvalidLine_hn => k_is); (case X_InvalidLine_ht => k_is); (case X_InvalidLine_hm => k_is); (case X_InvalidLine_iC => k_is); (case X_InvalidLine_iF => k_is); (case X_InvalidLine_l => k_is); (case X_InvalidLine_c => k_is); (case X_InvalidLine_k => k_is)
    (case h_InvalidLine_h => k_is)
    (case X_NoStory_a => k_is); (case X_NoStory_lC => k_is); (case X_NoStory_rV => rfl); (case X_NoStory_sa => k_is); (case X_NoStory_exC => k_is); (case X_NoStory_tyC => k_is); (case X_NoStory_kC => k_is); (case X_NoStory_hg => k_is); (case X_NoStory_hk => k_is); (case X_NoStory_hd => k_is); (case X_NoStory_ha => k_is); (case X_NoStory_hn => k_is); (case X_NoStory_ht => k_is); (case X_NoStory_hm => k_is); (case X_NoStory_iC => k_is); (case X_NoStory_iF => k_is); (case X_NoStory_l => k_is); (case X_NoStory_c => k_is); (case X_NoStory_k => k_is)
    (case h_NoStory_h => k_is)
    (case X_TooGreat_a => k_is); (case X_TooGreat_lC => k_is); (case X_TooGreat_rV => rfl); (case X_TooGreat_sa => k_is); (case X_TooGreat_exC => k_is); (case X_TooGreat_tyC => k_is); (case X_TooGreat_kC => k_is); (case X_TooGreat_hg => k_is); (case X_TooGreat_hk => k_is); (case X_TooGreat_hd => k_is); (case X_TooGreat_ha => k_is); (case X_TooGreat_hn => k_is); (case X_TooGreat_ht => k_is); (case X_TooGreat_hm => k_is); (case X_TooGreat_iC => k_is); (case X_TooGreat_iF => k_is); (case X_TooGreat_l => k_is); (case X_TooGreat_c => k_is); (case X_TooGreat_k => k_is)
    (case h_TooGreat_h => k_is)
    (case X_NotComparable_a => k_is); (case X_NotComparable_lC => k_is); (case X_NotComparable_rV => rfl); (case X_NotComparable_sa => k_is); (case X_NotComparable_exC => k_is); (case X_NotComparable_tyC => k_is); (case X_NotComparable_kC => k_is); (case X_NotComparable_hg => k_is); (case X_NotComparable_hk => k_is); (case X_NotComparable_hd => k_is); (case X_NotComparable_ha => k_is); (case X_NotComparable_hn => k_is); (case X_NotComparable_ht => k_is); (case X_NotComparable_hm => k_is); (case X_NotComparable_iC => k_is); (case X_NotComparable_iF => k_is); (case X_NotComparable_l => k_is); (case X_NotComparable_c => k_is); (case X_NotComparable_k => k_is)
    (case h_NotComparable_h => k_is)
    (case X_NotLetIn_a => k_is); (case X_NotLetIn_lC => k_is); (case X_NotLetIn_rV => rfl); (case X_NotLetIn_sa => k_is); (case X_NotLetIn_exC => k_is); (case X_NotLetIn_tyC => k_is); (case X_NotLetIn_kC => k_is); (case X_NotLetIn_hg => k_is); (case X_NotLetIn_hk => k_is); (case X_NotLetIn_hd => k_is); (case X_NotLetIn_ha => k_is); (case X_NotLetIn_hn => k_is); (case X_NotLetIn_ht => k_is); (case X_NotLetIn_hm => k_is); (case X_NotLetIn_iC => k_is); (case X_NotLetIn_iF => k_is); (case X_NotLetIn_l => k_is); (case X_NotLetIn_c => k_is); (case X_NotLetIn_k => k_is)
    (case h_NotLetIn_h => k_is)
    (case X_NotWaiting_a => k_is); (case X_NotWaiting_lC => k_is); (case X_NotWaiting_rV => rfl); (case X_NotWaiting_sa => k_is); (case X_NotWaiting_exC => k_is); (case X_NotWaiting_tyC => k_is); (case X_NotWaiting_kC => k_is); (case X_NotWaiting_hg => k_is); (case X_NotWaiting_hk => k_is); (case X_NotWaiting_hd => k_is); (case X_NotWaiting_ha => k_is); (case X_NotWaiting_hn => k_is); (case X_NotWaiting_ht => k_is); (case X_NotWaiting_hm => k_is); (case X_NotWaiting_iC => k_is); (case X_NotWaiting_iF => k_is); (case X_NotWaiting_l => k_is); (case X_NotWaiting_c => k_is); (case X_NotWaiting_k => k_is)
    (case h_NotWaiting_h => k_is)
    (case X_Broken_a => k_is); (case X_Broken_lC => k_is); (case X_Broken_rV => rfl); (case X_Broken_sa => k_is); (case X_Broken_exC => k_is); (case X_Broken_tyC => k_is); (case X_Broken_kC => k_is); (case X_Broken_hg => k_is); (case X_Broken_hk => k_is); (case X_Broken_hd => k_is); (case X_Broken_ha => k_is); (case X_Broken_hn => k_is); (case X_Broken_ht => k_is); (case X_Broken_hm => k_is); (case X_Broken_iC => k_is); (case X_Broken_iF => k_is); (case X_Broken_l => k_is); (case X_Broken_c => k_is); (case X_Broken_k => k_is)
    (case h_Broken_h => k_is)
    (case X_UnknownOpen_a => k_is); (case X_UnknownOpen_lC => k_is); (case X_UnknownOpen_sa => k_is); (case X_UnknownOpen_exC => k_is); (case X_UnknownOpen_kC => k_is); (case X_UnknownOpen_hg => k_is); (case X_UnknownOpen_hk => k_is); (case X_UnknownOpen_hd => k_is); (case X_UnknownOpen_ha => k_is); (case X_UnknownOpen_hn => k_is); (case X_UnknownOpen_ht => k_is); (case X_UnknownOpen_hm => k_is); (case X_UnknownOpen_iC => k_is); (case X_UnknownOpen_iF => k_is); (case X_UnknownOpen_l => k_is); (case X_UnknownOpen_c => k_is); (case X_UnknownOpen_k => k_is)
    (case v_UnknownOpen_h => k_is)
    (case h_UnknownOpen_h => k_is)
    (case X_Empty_a => k_is); (case X_Empty_lC => k_is); (case X_Empty_rV => rfl); (case X_Empty_sa => k_is); (case X_Empty_exC => k_is); (case X_Empty_tyC => k_is); (case X_Empty_kC => k_is); (case X_Empty_hg => k_is); (case X_Empty_hk => k_is); (case X_Empty_hd => k_is); (case X_Empty_ha => k_is); (case X_Empty_hn => k_is); (case X_Empty_ht => k_is); (case X_Empty_hm => k_is); (case X_Empty_iC => k_is); (case X_Empty_iF => k_is); (case X_Empty_l => k_is); (case X_Empty_c => k_is); (case X_Empty_k => k_is)
    (case X_Busy_a => k_is); (case X_Busy_lC => k_is); (case X_Busy_rV => rfl); (case X_Busy_sa => k_is); (case X_Busy_exC => k_is); (case X_Busy_tyC => k_is); (case X_Busy_kC => k_is); (case X_Busy_hg => k_is); (case X_Busy_hk => k_is); (case X_Busy_hd => k_is); (case X_Busy_ha => k_is); (case X_Busy_hn => k_is); (case X_Busy_ht => k_is); (case X_Busy_hm => k_is); (case X_Busy_iC => k_is); (case X_Busy_iF => k_is); (case X_Busy_l => k_is); (case X_Busy_c => k_is); (case X_Busy_k => k_is)
    (case D_InvalidText_a => k_is); (case D_InvalidText_i => k_is); (case D_InvalidText_t => k_is)
    (case D_TooMany_a => k_is); (case D_TooMany_i => k_is); (case D_TooMany_t => k_is)
    (case D_InvalidProgram_a => k_is); (case D_InvalidProgram_i => k_is); (case D_InvalidProgram_t => k_is)
    (case D_TooGreat_a => k_is); (case D_TooGreat_i => k_is); (case D_TooGreat_t => k_is)
    (case D_NoStory_a => k_is); (case D_NoStory_i => k_is); (case D_NoStory_t => k_is)
    (case D_InvalidLine_a => k_is); (case D_InvalidLine_i => k_is); (case D_InvalidLine_t => k_is)
    (case D_NotWaiting_a => k_is); (case D_NotWaiting_i => k_is); (case D_NotWaiting_t => k_is)
    (case D_NotLetIn_a => k_is); (case D_NotLetIn_i => k_is); (case D_NotLetIn_t => k_is)
    (case D_NotComparable_a => k_is); (case D_NotComparable_i => k_is); (case D_NotComparable_t => k_is)
    (case D_Busy_a => k_is); (case D_Busy_i => k_is); (case D_Busy_t => k_is)
    (case D_Empty_a => k_is); (case D_Empty_i => k_is); (case D_Empty_t => k_is)
    (case D_UnknownOpen_a => k_is); (case D_UnknownOpen_i => k_is); (case D_UnknownOpen_t => k_is)
    (case D_Broken_a => k_is); (case D_Broken_i => k_is); (case D_Broken_t => k_is)
    (case D_BreakError_a => k_is); (case D_BreakError_i => k_is); (case D_BreakError_t => k_is)
    (case s_InvalidProgram_InvalidText_h => first | rfl | k_is)
    (case r_InvalidProgram_InvalidText_h => rfl)
    (case s_InvalidProgram_TooMany_h => first | rfl | k_is)
    (case r_InvalidProgram_TooMany_h => rfl)
    (case s_InvalidProgram_InvalidProgram_h => first | rfl | k_is)
    (case s_InvalidProgram_TooGreat_h => first | rfl | k_is)
    (case r_InvalidProgram_TooGreat_h => rfl)
    (case s_InvalidProgram_NoStory_h => first | rfl | k_is)
    (case r_InvalidProgram_NoStory_h => rfl)
    (case s_InvalidProgram_InvalidLine_h => first | rfl | k_is)
    (case r_InvalidProgram_InvalidLine_h => rfl)
    (case s_InvalidProgram_NotWaiting_h => first | rfl | k_is)
    (case r_InvalidProgram_NotWaiting_h => rfl)
    (case s_InvalidProgram_NotLetIn_h => first | rfl | k_is)
    (case r_InvalidProgram_NotLetIn_h => rfl)
    (case s_InvalidProgram_NotComparable_h => first | rfl | k_is)
    (case r_InvalidProgram_NotComparable_h => rfl)
    (case s_InvalidProgram_Busy_h => first | rfl | k_is)
    (case r_InvalidProgram_Busy_h => rfl)
    (case s_InvalidProgram_Empty_h => first | rfl | k_is)
    (case r_InvalidProgram_Empty_h => rfl)
    (case s_InvalidProgram_UnknownOpen_h => first | rfl | k_is)
    (case r_InvalidProgram_UnknownOpen_h => rfl)
    (case s_InvalidProgram_Broken_h => first | rfl | k_is)
    (case r_InvalidProgram_Broken_h => rfl)
    (case s_InvalidProgram_BreakError_h => first | rfl | k_is)
    (case s_InvalidProgram_KeyError_h => first | rfl | k_is)
    (case s_InvalidProgram_ValueError_h => first | rfl | k_is)
    (case s_TooMany_InvalidText_h => first | rfl | k_is)
    (case r_TooMany_InvalidText_h => rfl)
    (case s_TooMany_TooMany_h => first | rfl | k_is)
    (case s_TooMany_InvalidProgram_h => first | rfl | k_is)
    (case r_TooMany_InvalidProgram_h => rfl)
    (case s_TooMany_TooGreat_h => first | rfl | k_is)
    (case r_TooMany_TooGreat_h => rfl)
    (case s_TooMany_NoStory_h => first | rfl | k_is)
    (case r_TooMany_NoStory_h => rfl)
    (case s_TooMany_InvalidLine_h => first | rfl | k_is)
    (case r_TooMany_InvalidLine_h => rfl)
    (case s_TooMany_NotWaiting_h => first | rfl | k_is)
    (case r_TooMany_NotWaiting_h => rfl)
    (case s_TooMany_NotLetIn_h => first | rfl | k_is)
    (case r_TooMany_NotLetIn_h => rfl)
    (case s_TooMany_NotComparable_h => first | rfl | k_is)
    (case r_TooMany_NotComparable_h => rfl)
    (case s_TooMany_Busy_h => first | rfl | k_is)
    (case r_TooMany_Busy_h => rfl)
    (case s_TooMany_Empty_h => first | rfl | k_is)
    (case r_TooMany_Empty_h => rfl)
    (case s_TooMany_UnknownOpen_h => first | rfl | k_is)
    (case r_TooMany_UnknownOpen_h => rfl)
    (case s_TooMany_Broken_h => first | rfl | k_is)
    (case r_TooMany_Broken_h => rfl)
    (case s_TooMany_BreakError_h => first | rfl | k_is)
    (case s_TooMany_KeyError_h => first | rfl | k_is)
    (case s_TooMany_ValueError_h => first | rfl | k_is)
    (case s_InvalidText_InvalidText_h => first | rfl | k_is)
    (case s_InvalidText_TooMany_h => first | rfl | k_is)
    (case r_InvalidText_TooMany_h => rfl)
    (case s_InvalidText_InvalidProgram_h => first | rfl | k_is)
    (case r_InvalidText_InvalidProgram_h => rfl)
    (case s_InvalidText_TooGreat_h => first | rfl | k_is)
    (case r_InvalidText_TooGreat_h => rfl)
    (case s_InvalidText_NoStory_h => first | rfl | k_is)
    (case r_InvalidText_NoStory_h => rfl)
    (case s_InvalidText_InvalidLine_h => first | rfl | k_is)
    (case r_InvalidText_InvalidLine_h => rfl)
    (case s_InvalidText_NotWaiting_h => first | rfl | k_is)
    (case r_InvalidText_NotWaiting_h => rfl)
    (case s_InvalidText_NotLetIn_h => first | rfl | k_is)
    (case r_InvalidText_NotLetIn_h => rfl)
    (case s_InvalidText_NotComparable_h => first | rfl | k_is)
    (case r_InvalidText_NotComparable_h => rfl)
    (case s_InvalidText_Busy_h => first | rfl | k_is)
    (case r_InvalidText_Busy_h => rfl)
    (case s_InvalidText_Empty_h => first | rfl | k_is)
    (case r_InvalidText_Empty_h => rfl)
    (case s_InvalidText_UnknownOpen_h => first | rfl | k_is)
    (case r_InvalidText_UnknownOpen_h => rfl)
    (case s_InvalidText_Broken_h => first | rfl | k_is)
    (case r_InvalidText_Broken_h => rfl)
    (case s_InvalidText_BreakError_h => first | rfl | k_is)
    (case s_InvalidText_KeyError_h => first | rfl | k_is)
    (case s_InvalidText_ValueError_h => first | rfl | k_is)
    (case s_InvalidLine_InvalidText_h => first | rfl | k_is)
    (case r_InvalidLine_InvalidText_h => rfl)
    (case s_InvalidLine_TooMany_h => first | rfl | k_is)
    (case r_InvalidLine_TooMany_h => rfl)
    (case s_InvalidLine_InvalidProgram_h => first | rfl | k_is)
    (case r_InvalidLine_InvalidProgram_h => rfl)
    (case s_InvalidLine_TooGreat_h => first | rfl | k_is)
    (case r_InvalidLine_TooGreat_h => rfl)
    (case s_InvalidLine_NoStory_h => first | rfl | k_is)
    (case r_InvalidLine_NoStory_h => rfl)
    (case s_InvalidLine_InvalidLine_h => first | rfl | k_is)
    (case s_InvalidLine_NotWaiting_h => first | rfl | k_is)
    (case r_InvalidLine_NotWaiting_h => rfl)
    (case s_InvalidLine_NotLetIn_h => first | rfl | k_is)
    (case r_InvalidLine_NotLetIn_h => rfl)
    (case s_InvalidLine_NotComparable_h => first | rfl | k_is)
    (case r_InvalidLine_NotComparable_h => rfl)
    (case s_InvalidLine_Busy_h => first | rfl | k_is)
    (case r_InvalidLine_Busy_h => rfl)
    (case s_InvalidLine_Empty_h => first | rfl | k_is)
    (case r_InvalidLine_Empty_h => rfl)
    (case s_InvalidLine_UnknownOpen_h => first | rfl | k_is)
    (case r_InvalidLine_UnknownOpen_h => rfl)
    (case s_InvalidLine_Broken_h => first | rfl | k_is)
    (case r_InvalidLine_Broken_h => rfl)
    (case s_InvalidLine_BreakError_h => first | rfl | k_is)
    (case s_InvalidLine_KeyError_h => first | rfl | k_is)
    (case s_InvalidLine_ValueError_h => first | rfl | k_is)
    (case s_NoStory_InvalidText_h => first | rfl | k_is)
    (case r_NoStory_InvalidText_h => rfl)
    (case s_NoStory_TooMany_h => first | rfl | k_is)
    (case r_NoStory_TooMany_h => rfl)
    (case s_NoStory_InvalidProgram_h => first | rfl | k_is)
    (case r_NoStory_InvalidProgram_h => rfl)
    (case s_NoStory_TooGreat_h => first | rfl | k_is)
    (case r_NoStory_TooGreat_h => rfl)
    (case s_NoStory_NoStory_h => first | rfl | k_is)
    (case s_NoStory_InvalidLine_h => first | rfl | k_is)
    (case r_NoStory_InvalidLine_h => rfl)
    (case s_NoStory_NotWaiting_h => first | rfl | k_is)
    (case r_NoStory_NotWaiting_h => rfl)
    (case s_NoStory_NotLetIn_h => first | rfl | k_is)
    (case r_NoStory_NotLetIn_h => rfl)
    (case s_NoStory_NotComparable_h => first | rfl | k_is)
    (case r_NoStory_NotComparable_h => rfl)
    (case s_NoStory_Busy_h => first | rfl | k_is)
    (case r_NoStory_Busy_h => rfl)
    (case s_NoStory_Empty_h => first | rfl | k_is)
    (case r_NoStory_Empty_h => rfl)
    (case s_NoStory_UnknownOpen_h => first | rfl | k_is)
    (case r_NoStory_UnknownOpen_h => rfl)
    (case s_NoStory_Broken_h => first | rfl | k_is)
    (case r_NoStory_Broken_h => rfl)
    (case s_NoStory_BreakError_h => first | rfl | k_is)
    (case s_NoStory_KeyError_h => first | rfl | k_is)
    (case s_NoStory_ValueError_h => first | rfl | k_is)
    (case s_TooGreat_InvalidText_h => first | rfl | k_is)
    (case r_TooGreat_InvalidText_h => rfl)
    (case s_TooGreat_TooMany_h => first | rfl | k_is)
    (case r_TooGreat_TooMany_h => rfl)
    (case s_TooGreat_InvalidProgram_h => first | rfl | k_is)
    (case r_TooGreat_InvalidProgram_h => rfl)
    (case s_TooGreat_TooGreat_h => first | rfl | k_is)
    (case s_TooGreat_NoStory_h => first | rfl | k_is)
    (case r_TooGreat_NoStory_h => rfl)
    (case s_TooGreat_InvalidLine_h => first | rfl | k_is)
    (case r_TooGreat_InvalidLine_h => rfl)
    (case s_TooGreat_NotWaiting_h => first | rfl | k_is)
    (case r_TooGreat_NotWaiting_h => rfl)
    (case s_TooGreat_NotLetIn_h => first | rfl | k_is)
    (case r_TooGreat_NotLetIn_h => rfl)
    (case s_TooGreat_NotComparable_h => first | rfl | k_is)
    (case r_TooGreat_NotComparable_h => rfl)
    (case s_TooGreat_Busy_h => first | rfl | k_is)
    (case r_TooGreat_Busy_h => rfl)
    (case s_TooGreat_Empty_h => first | rfl | k_is)
    (case r_TooGreat_Empty_h => rfl)
    (case s_TooGreat_UnknownOpen_h => first | rfl | k_is)
    (case r_TooGreat_UnknownOpen_h => rfl)
    (case s_TooGreat_Broken_h => first | rfl | k_is)
    (case r_TooGreat_Broken_h => rfl)
    (case s_TooGreat_BreakError_h => first | rfl | k_is)
    (case s_TooGreat_KeyError_h => first | rfl | k_is)
    (case s_TooGreat_ValueError_h => first | rfl | k_is)
    (case s_NotComparable_InvalidText_h => first | rfl | k_is)
    (case r_NotComparable_InvalidText_h => rfl)
    (case s_NotComparable_TooMany_h => first | rfl | k_is)
    (case r_NotComparable_TooMany_h => rfl)
    (case s_NotComparable_InvalidProgram_h => first | rfl | k_is)
    (case r_NotComparable_InvalidProgram_h => rfl)
    (case s_NotComparable_TooGreat_h => first | rfl | k_is)
    (case r_NotComparable_TooGreat_h => rfl)
    (case s_NotComparable_NoStory_h => first | rfl | k_is)
    (case r_NotComparable_NoStory_h => rfl)
    (case s_NotComparable_InvalidLine_h => first | rfl | k_is)
    (case r_NotComparable_InvalidLine_h => rfl)
    (case s_NotComparable_NotWaiting_h => first | rfl | k_is)
    (case r_NotComparable_NotWaiting_h => rfl)
    (case s_NotComparable_NotLetIn_h => first | rfl | k_is)
    (case r_NotComparable_NotLetIn_h => rfl)
    (case s_NotComparable_NotComparable_h => first | rfl | k_is)
    (case s_NotComparable_Busy_h => first | rfl | k_is)
    (case r_NotComparable_Busy_h => rfl)
    (case s_NotComparable_Empty_h => first | rfl | k_is)
    (case r_NotComparable_Empty_h => rfl)
    (case s_NotComparable_UnknownOpen_h => first | rfl | k_is)
    (case r_NotComparable_UnknownOpen_h => rfl)
    (case s_NotComparable_Broken_h => first | rfl | k_is)
    (case r_NotComparable_Broken_h => rfl)
    (case s_NotComparable_BreakError_h => first | rfl | k_is)
    (case s_NotComparable_KeyError_h => first | rfl | k_is)
    (case s_NotComparable_ValueError_h => first | rfl | k_is)
    (case s_NotLetIn_InvalidText_h => first | rfl | k_is)
    (case r_NotLetIn_InvalidText_h => rfl)
    (case s_NotLetIn_TooMany_h => first | rfl | k_is)
    (case r_NotLetIn_TooMany_h => rfl)
    (case s_NotLetIn_InvalidProgram_h => first | rfl | k_is)
    (case r_NotLetIn_InvalidProgram_h => rfl)
    (case s_NotLetIn_TooGreat_h => first | rfl | k_is)
    (case r_NotLetIn_TooGreat_h => rfl)
    (case s_NotLetIn_NoStory_h => first | rfl | k_is)
    (case r_NotLetIn_NoStory_h => rfl)
    (case s_NotLetIn_InvalidLine_h => first | rfl | k_is)
    (case r_NotLetIn_InvalidLine_h => rfl)
    (case s_NotLetIn_NotWaiting_h => first | rfl | k_is)
    (case r_NotLetIn_NotWaiting_h => rfl)
    (case s_NotLetIn_NotLetIn_h => first | rfl | k_is)
    (case s_NotLetIn_NotComparable_h => first | rfl | k_is)
    (case r_NotLetIn_NotComparable_h => rfl)
    (case s_NotLetIn_Busy_h => first | rfl | k_is)
    (case r_NotLetIn_Busy_h => rfl)
    (case s_NotLetIn_Empty_h => first | rfl | k_is)
    (case r_NotLetIn_Empty_h => rfl)
    (case s_NotLetIn_UnknownOpen_h => first | rfl | k_is)
    (case r_NotLetIn_UnknownOpen_h => rfl)
    (case s_NotLetIn_Broken_h => first | rfl | k_is)
    (case r_NotLetIn_Broken_h => rfl)
    (case s_NotLetIn_BreakError_h => first | rfl | k_is)
    (case s_NotLetIn_KeyError_h => first | rfl | k_is)
    (case s_NotLetIn_ValueError_h => first | rfl | k_is)
    (case s_NotWaiting_InvalidText_h => first | rfl | k_is)
    (case r_NotWaiting_InvalidText_h => rfl)
    (case s_NotWaiting_TooMany_h => first | rfl | k_is)
    (case r_NotWaiting_TooMany_h => rfl)
    (case s_NotWaiting_InvalidProgram_h => first | rfl | k_is)
    (case r_NotWaiting_InvalidProgram_h => rfl)
    (case s_NotWaiting_TooGreat_h => first | rfl | k_is)
    (case r_NotWaiting_TooGreat_h => rfl)
    (case s_NotWaiting_NoStory_h => first | rfl | k_is)
    (case r_NotWaiting_NoStory_h => rfl)
    (case s_NotWaiting_InvalidLine_h => first | rfl | k_is)
    (case r_NotWaiting_InvalidLine_h => rfl)
    (case s_NotWaiting_NotWaiting_h => first | rfl | k_is)
    (case s_NotWaiting_NotLetIn_h => first | rfl | k_is)
    (case r_NotWaiting_NotLetIn_h => rfl)
    (case s_NotWaiting_NotComparable_h => first | rfl | k_is)
    (case r_NotWaiting_NotComparable_h => rfl)
    (case s_NotWaiting_Busy_h => first | rfl | k_is)
    (case r_NotWaiting_Busy_h => rfl)
    (case s_NotWaiting_Empty_h => first | rfl | k_is)
    (case r_NotWaiting_Empty_h => rfl)
    (case s_NotWaiting_UnknownOpen_h => first | rfl | k_is)
    (case r_NotWaiting_UnknownOpen_h => rfl)
    (case s_NotWaiting_Broken_h => first | rfl | k_is)
    (case r_NotWaiting_Broken_h => rfl)
    (case s_NotWaiting_BreakError_h => first | rfl | k_is)
    (case s_NotWaiting_KeyError_h => first | rfl | k_is)
    (case s_NotWaiting_ValueError_h => first | rfl | k_is)
    (case s_Broken_InvalidText_h => first | rfl | k_is)
    (case r_Broken_InvalidText_h => rfl)
    (case s_Broken_TooMany_h => first | rfl | k_is)
    (case r_Broken_TooMany_h => rfl)
    (case s_Broken_InvalidProgram_h => first | rfl | k_is)
    (case r_Broken_InvalidProgram_h => rfl)
    (case s_Broken_TooGreat_h => first | rfl | k_is)
    (case r_Broken_TooGreat_h => rfl)
    (case s_Broken_NoStory_h => first | rfl | k_is)
    (case r_Broken_NoStory_h => rfl)
    (case s_Broken_InvalidLine_h => first | rfl | k_is)
    (case r_Broken_InvalidLine_h => rfl)
    (case s_Broken_NotWaiting_h => first | rfl | k_is)
    (case r_Broken_NotWaiting_h => rfl)
    (case s_Broken_NotLetIn_h => first | rfl | k_is)
    (case r_Broken_NotLetIn_h => rfl)
    (case s_Broken_NotComparable_h => first | rfl | k_is)
    (case r_Broken_NotComparable_h => rfl)
    (case s_Broken_Busy_h => first | rfl | k_is)
    (case r_Broken_Busy_h => rfl)
    (case s_Broken_Empty_h => first | rfl | k_is)
    (case r_Broken_Empty_h => rfl)
    (case s_Broken_UnknownOpen_h => first | rfl | k_is)
    (case r_Broken_UnknownOpen_h => rfl)
    (case s_Broken_Broken_h => first | rfl | k_is)
    (case s_Broken_BreakError_h => first | rfl | k_is)
    (case s_Broken_KeyError_h => first | rfl | k_is)
    (case s_Broken_ValueError_h => first | rfl | k_is)
    (case s_UnknownOpen_InvalidText_h => first | rfl | k_is)
    (case r_UnknownOpen_InvalidText_h => rfl)
    (case s_UnknownOpen_TooMany_h => first | rfl | k_is)
    (case r_UnknownOpen_TooMany_h => rfl)
    (case s_UnknownOpen_InvalidProgram_h => first | rfl | k_is)
    (case r_UnknownOpen_InvalidProgram_h => rfl)
    (case s_UnknownOpen_TooGreat_h => first | rfl | k_is)
    (case r_UnknownOpen_TooGreat_h => rfl)
    (case s_UnknownOpen_NoStory_h => first | rfl | k_is)
    (case r_UnknownOpen_NoStory_h => rfl)
    (case s_UnknownOpen_InvalidLine_h => first | rfl | k_is)
    (case r_UnknownOpen_InvalidLine_h => rfl)
    (case s_UnknownOpen_NotWaiting_h => first | rfl | k_is)
    (case r_UnknownOpen_NotWaiting_h => rfl)
    (case s_UnknownOpen_NotLetIn_h => first | rfl | k_is)
    (case r_UnknownOpen_NotLetIn_h => rfl)
    (case s_UnknownOpen_NotComparable_h => first | rfl | k_is)
    (case r_UnknownOpen_NotComparable_h => rfl)
    (case s_UnknownOpen_Busy_h => first | rfl | k_is)
    (case r_UnknownOpen_Busy_h => rfl)
    (case s_UnknownOpen_Empty_h => first | rfl | k_is)
    (case r_UnknownOpen_Empty_h => rfl)
    (case s_UnknownOpen_UnknownOpen_h => first | rfl | k_is)
    (case s_UnknownOpen_Broken_h => first | rfl | k_is)
    (case r_UnknownOpen_Broken_h => rfl)
    (case s_UnknownOpen_BreakError_h => first | rfl | k_is)
    (case r_UnknownOpen_BreakError_h => rfl)
    (case s_UnknownOpen_KeyError_h => first | rfl | k_is)
    (case s_UnknownOpen_ValueError_h => first | rfl | k_is)
    (case s_Empty_InvalidText_h => first | rfl | k_is)
    (case r_Empty_InvalidText_h => rfl)
    (case s_Empty_TooMany_h => first | rfl | k_is)
    (case r_Empty_TooMany_h => rfl)
    (case s_Empty_InvalidProgram_h => first | rfl | k_is)
    (case r_Empty_InvalidProgram_h => rfl)
    (case s_Empty_TooGreat_h => first | rfl | k_is)
    (case r_Empty_TooGreat_h => rfl)
    (case s_Empty_NoStory_h => first | rfl | k_is)
    (case r_Empty_NoStory_h => rfl)
    (case s_Empty_InvalidLine_h => first | rfl | k_is)
    (case r_Empty_InvalidLine_h => rfl)
    (case s_Empty_NotWaiting_h => first | rfl | k_is)
    (case r_Empty_NotWaiting_h => rfl)
    (case s_Empty_NotLetIn_h => first | rfl | k_is)
    (case r_Empty_NotLetIn_h => rfl)
    (case s_Empty_NotComparable_h => first | rfl | k_is)
    (case r_Empty_NotComparable_h => rfl)
    (case s_Empty_Busy_h => first | rfl | k_is)
    (case r_Empty_Busy_h => rfl)
    (case s_Empty_Empty_h => first | rfl | k_is)
    (case s_Empty_UnknownOpen_h => first | rfl | k_is)
    (case r_Empty_UnknownOpen_h => rfl)
    (case s_Empty_Broken_h => first | rfl | k_is)
    (case r_Empty_Broken_h => rfl)
    (case s_Empty_BreakError_h => first | rfl | k_is)
    (case s_Empty_KeyError_h => first | rfl | k_is)
    (case s_Empty_ValueError_h => first | rfl | k_is)
    (case s_Busy_InvalidText_h => first | rfl | k_is)
    (case r_Busy_InvalidText_h => rfl)
    (case s_Busy_TooMany_h => first | rfl | k_is)
    (case r_Busy_TooMany_h => rfl)
    (case s_Busy_InvalidProgram_h => first | rfl | k_is)
    (case r_Busy_InvalidProgram_h => rfl)
    (case s_Busy_TooGreat_h => first | rfl | k_is)
    (case r_Busy_TooGreat_h => rfl)
    (case s_Busy_NoStory_h => first | rfl | k_is)
    (case r_Busy_NoStory_h => rfl)
    (case s_Busy_InvalidLine_h => first | rfl | k_is)
    (case r_Busy_InvalidLine_h => rfl)
    (case s_Busy_NotWaiting_h => first | rfl | k_is)
    (case r_Busy_NotWaiting_h => rfl)
    (case s_Busy_NotLetIn_h => first | rfl | k_is)
    (case r_Busy_NotLetIn_h => rfl)
    (case s_Busy_NotComparable_h => first | rfl | k_is)
    (case r_Busy_NotComparable_h => rfl)
    (case s_Busy_Busy_h => first | rfl | k_is)
    (case s_Busy_Empty_h => first | rfl | k_is)
    (case r_Busy_Empty_h => rfl)
    (case s_Busy_UnknownOpen_h => first | rfl | k_is)
    (case r_Busy_UnknownOpen_h => rfl)
    (case s_Busy_Broken_h => first | rfl | k_is)
    (case r_Busy_Broken_h => rfl)
    (case s_Busy_BreakError_h => first | rfl | k_is)
    (case s_Busy_KeyError_h => first | rfl | k_is)
    (case s_Busy_ValueError_h => first | rfl | k_is)
    (case z0 => k_is)
    (case z1 => k_is)
    (case z2 => k_is)
    (case z3 => k_is)
    (case z4 => k_is)
    (case z5 => k_is)
    (case z6 => k_is)
    (case z7 => k_is)
