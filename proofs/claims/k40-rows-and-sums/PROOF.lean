import PyProof.Rows.All
import Wide.All
import OpenK.AllK
import Wide.FinOn
import HandS.ForMost
import HandS.ForExc
import HandS.TupAny
import HandS.TupMul
import HandS.Zip
import HandS.Style
import HandS.IsInst
import HandS.Conv
import HandS.Flow
import HandS.Walk
import HandS.Deep
import HandS.SortRule
import HandS.SortInts
import HandS.SetKeys
import HandS.More
import KE.GoesEnum
import KE.KDictZip
import HandS.ListItems
import HandS.SetFor
import HandS.Text
import HandS.StrMore
import HandS.FStr
import HandS.TryOnly
import HandS.HotCalls
import KE.KExcIs
import HandS.Dict
import PyProof.ReprRoads
import HandS.Ends
import PyProof.ReprLen
import PySem.Challenge.RW_keptranges_k40_whole_rows_and_sums
set_option Elab.async false
set_option linter.all false
set_option maxRecDepth 100000
/-! A layer over HandS: values with their tuples inline, an interpretation of a small language, and its rules. -/
namespace DL
open PySem PySem.Spec PyProof.Rows L2

/-! ### values -/
inductive D where
  | non | bl (b : Bool) | int (i : Int) | str (x : Str) | tup (xs : List D) | rol (xs : List D) | fl (xs : List D) | ptp (xs : List D) | rod (ks : List Key) (xs : List D) | ref (a : Addr)
inductive AO where
  | lst (xs : List D) | dk (kvs : List (Key × D)) | dkl (kvs : List (Key × D)) (u : HO) | ins (C : Nat) (fs : List D) | dt (kvs : List (List Key × D))
abbrev AH := Addr → Option AO
abbrev DSt := List (Option D)
/-- the link to the text: the classes' addresses, their fields' names, the exceptions' classes, the defs' addresses -/
structure Lk where
  K : PySem.W.Frag
  CA : Nat → Addr
  FN : Nat → List Str
  XV : Nat → Value
  FA : Nat → Addr
  MN : Nat → Str

def up (A : AH) (a : Addr) (o : AO) : AH := fun b => if b = a then some o else A b
theorem up_same {A : AH} {a : Addr} {o : AO} : up A a o a = some o := by unfold up; rw [if_pos rfl]
theorem up_ne {A : AH} {a b : Addr} {o : AO} (h : b ≠ a) : up A a o b = A b := by unfold up; rw [if_neg h]
theorem up_up {A : AH} {a : Addr} {o u : AO} : up (up A a o) a u = up A a u := by
  funext b; unfold up; split <;> rfl
theorem up_id {A : AH} {a : Addr} {o : AO} (h : A a = some o) : up A a o = A := by
  funext b; unfold up; split
  · next e => rw [e, h]
  · rfl
theorem up_comm {A : AH} {a b : Addr} {o u : AO} (h : a ≠ b) : up (up A a o) b u = up (up A b u) a o := by
  funext c; unfold up
  by_cases h1 : c = a
  · subst h1; simp [h]
  · by_cases h2 : c = b
    · subst h2; simp [h1]
    · simp [h1, h2]
theorem ne_up {A : AH} {a b : Addr} {o : AO} (h : A a = some o) (h' : A b = none) : a ≠ b := by
  intro e; subst e; rw [h] at h'; cases h'
/-- less is known -/
def Sub (A B : AH) : Prop := ∀ a o, A a = some o → B a = some o
theorem Sub.refl (A : AH) : Sub A A := fun _ _ h => h
theorem Sub.trans {A B C : AH} (h : Sub A B) (k : Sub B C) : Sub A C := fun a o e => k a o (h a o e)
theorem Sub.up {A B : AH} (h : Sub A B) {p : Addr} {o : AO} (n : A p = none) : Sub A (up B p o) := fun a u e => by
  rw [up_ne (ne_up e n)]; exact h a u e
theorem Sub.new {A : AH} {p : Addr} {o : AO} (n : A p = none) : Sub A (DL.up A p o) := (Sub.refl A).up n
theorem Sub.non {A B : AH} (h : Sub A B) {p : Addr} (n : B p = none) : A p = none := by
  cases e : A p with
  | none => rfl
  | some o => rw [h p o e] at n; cases n

/-! ### what stands for what -/
/-- a list, a dict that nothing of A can change: locked, or no longer told by A; N are the addresses that are kept back -/
def RdL (A : AH) (N : Addr → Prop) (H : Hp) (a : Addr) (xs : List V) : Prop := Rd H a (.lst xs) ∧ A a = none ∧ ¬ N a
def RdD (A : AH) (N : Addr → Prop) (H : Hp) (a : Addr) (ws : List (Key × V)) : Prop := Rd H a (.dK ws) ∧ A a = none ∧ ¬ N a
def SqR (K : PySem.W.Frag) (A : AH) (N : Addr → Prop) (H : Hp) (a : Addr) (xs : List V) : Prop :=
  RdL A N H a xs ∨
    ∃ (o : Obj) (its : Array Value) (n : Nat), K.lookup a = some o ∧ o.cls = .type "list" ∧ o.dict = none ∧ o.data = .seq its n ∧ its.size ≤ sizeLine ∧ Vals xs its.toList
theorem SqR.seq {K : PySem.W.Frag} {A : AH} {N : Addr → Prop} {H : Hp} {a : Addr} {xs : List V} (h : SqR K A N H a xs) : SqL K H a xs := by
  rcases h with h | h
  · exact .inl h.1
  · exact .inr h
mutual
def RV (K : PySem.W.Frag) (A : AH) (N : Addr → Prop) (H : Hp) : D → V → Prop
  | .non, v => v = .non
  | .bl b, v => v = .bl b
  | .int i, v => v = .int i
  | .str x, v => v = .str x
  | .ref a, v => v = .ref a
  | .tup ds, v => ∃ a vs, v = .ref a ∧ SqT K H a vs ∧ RVs K A N H ds vs
  | .rol ds, v => ∃ a vs, v = .ref a ∧ SqR K A N H a vs ∧ RVs K A N H ds vs
  | .fl ds, v => ∃ a vs, v = .ref a ∧ RdL A N H a vs ∧ RVs K A N H ds vs
  | .ptp ds, v => ∃ a o vs, v = .ref a ∧ H a = some (.frz o (.tup vs)) ∧ o.dict = none ∧ RVs K A N H ds vs
  | .rod ks ds, v => ∃ a ws, v = .ref a ∧ RdD A N H a ws ∧ ks = ws.map (·.1) ∧ RVs K A N H ds (ws.map (·.2))
def RVs (K : PySem.W.Frag) (A : AH) (N : Addr → Prop) (H : Hp) : List D → List V → Prop
  | [], vs => vs = []
  | d :: ds, vs => ∃ v r, vs = v :: r ∧ RV K A N H d v ∧ RVs K A N H ds r
end
def RKs (K : PySem.W.Frag) (A : AH) (N : Addr → Prop) (H : Hp) (kvs : List (Key × D)) (ws : List (Key × V)) : Prop := kvs.map (·.1) = ws.map (·.1) ∧ RVs K A N H (kvs.map (·.2)) (ws.map (·.2))
def RO (L : Lk) (A : AH) (N : Addr → Prop) (H : Hp) (a : Addr) : AO → Prop
  | .lst ds => ∃ vs, H a = some (.lst vs) ∧ RVs L.K A N H ds vs
  | .dk kvs => ∃ ws, H a = some (.dK ws) ∧ RKs L.K A N H kvs ws
  | .dkl kvs u => H a = some u ∧ ∃ o ws, u = .frz o (.dK ws) ∧ RKs L.K A N H kvs ws
  | .ins C fs => ∃ dx vs, H a = some (.ins (L.CA C) dx ((L.FN C).zip vs)) ∧ RVs L.K A N H fs vs ∧ fs.length ≤ (L.FN C).length
  | .dt kvs => ∃ ws, H a = some (.dT ws) ∧ kvs.map (·.1) = ws.map (·.1) ∧ RVs L.K A N H (kvs.map (·.2)) (ws.map (·.2))
structure RA (L : Lk) (A : AH) (N : Addr → Prop) (H : Hp) : Prop where
  at' : ∀ a o, A a = some o → RO L A N H a o
  hid : ∀ a, N a → A a = none ∧ ∃ o, H a = some o
instance {L : Lk} {A : AH} {N : Addr → Prop} {H : Hp} : CoeFun (RA L A N H) (fun _ => ∀ a o, A a = some o → RO L A N H a o) := ⟨fun r => r.at'⟩
/-- what A did not tell stays, and is not told -/
def Ext (A : AH) (H : Hp) (A' : AH) (H' : Hp) : Prop := ∀ b o, H b = some o → A b = none → H' b = some o ∧ A' b = none
def RS (K : PySem.W.Frag) (A : AH) (N : Addr → Prop) (H : Hp) (δ : DSt) (σ : L2.St) : Prop := σ.length = δ.length ∧ ∀ (i : Nat) (d : D), δ[i]? = some (some d) → ∃ v, σ[i]? = some (some v) ∧ RV K A N H d v

section
variable {L : Lk} {K : PySem.W.Frag} {A A1 A' : AH} {N N' : Addr → Prop} {H H1 H' : Hp} {a b : Addr} {o : AO} {d : D} {v : V} {ds es : List D} {vs ws : List V}
theorem RVs.nil : RVs K A N H [] [] := by unfold RVs; rfl
theorem RVs.cons (h : RV K A N H d v) (t : RVs K A N H ds vs) : RVs K A N H (d :: ds) (v :: vs) := by unfold RVs; exact ⟨v, vs, rfl, h, t⟩
theorem RVs.cons' (h : RVs K A N H (d :: ds) vs) : ∃ v r, vs = v :: r ∧ RV K A N H d v ∧ RVs K A N H ds r := by unfold RVs at h; exact h
theorem RVs.nil' (h : RVs K A N H [] vs) : vs = [] := by unfold RVs at h; exact h
theorem RVs.length : ∀ {ds : List D} {vs : List V}, RVs K A N H ds vs → ds.length = vs.length
  | [], _, h => by rw [h.nil']; rfl
  | d :: ds, _, h => by
    obtain ⟨v, r, rfl, _, t⟩ := h.cons'
    rw [List.length_cons, List.length_cons, RVs.length t]
theorem RVs.append : ∀ {ds es : List D} {vs ws : List V}, RVs K A N H ds vs → RVs K A N H es ws → RVs K A N H (ds ++ es) (vs ++ ws)
  | [], _, _, _, h, k => by rw [h.nil']; exact k
  | d :: ds, _, _, _, h, k => by
    obtain ⟨v, r, rfl, h1, t⟩ := h.cons'
    exact .cons h1 (RVs.append t k)
theorem RVs.take : ∀ (n : Nat) {ds : List D} {vs : List V}, RVs K A N H ds vs → RVs K A N H (ds.take n) (vs.take n)
  | 0, _, _, _ => .nil
  | n + 1, [], _, h => by rw [h.nil']; exact .nil
  | n + 1, d :: ds, _, h => by
    obtain ⟨v, r, rfl, h1, t⟩ := h.cons'
    exact .cons h1 (RVs.take n t)
theorem RVs.drop : ∀ (n : Nat) {ds : List D} {vs : List V}, RVs K A N H ds vs → RVs K A N H (ds.drop n) (vs.drop n)
  | 0, _, _, h => h
  | n + 1, [], _, h => by rw [h.nil']; exact .nil
  | n + 1, d :: ds, _, h => by
    obtain ⟨v, r, rfl, h1, t⟩ := h.cons'
    exact RVs.drop n t
theorem RVs.set (h1 : RV K A N H d v) : ∀ (n : Nat) {ds : List D} {vs : List V}, RVs K A N H ds vs → RVs K A N H (ds.set n d) (vs.set n v)
  | _, [], _, h => by rw [h.nil']; exact .nil
  | 0, d' :: ds, _, h => by
    obtain ⟨v', r, rfl, h2, t⟩ := h.cons'
    exact .cons h1 t
  | n + 1, d' :: ds, _, h => by
    obtain ⟨v', r, rfl, h2, t⟩ := h.cons'
    exact .cons h2 (RVs.set h1 n t)
theorem RVs.eraseIdx : ∀ (n : Nat) {ds : List D} {vs : List V}, RVs K A N H ds vs → RVs K A N H (ds.eraseIdx n) (vs.eraseIdx n)
  | _, [], _, h => by rw [h.nil']; exact .nil
  | 0, d' :: ds, _, h => by
    obtain ⟨v', r, rfl, h2, t⟩ := h.cons'
    exact t
  | n + 1, d' :: ds, _, h => by
    obtain ⟨v', r, rfl, h2, t⟩ := h.cons'
    exact .cons h2 (RVs.eraseIdx n t)
theorem RVs.get : ∀ {ds : List D} {vs : List V} {i : Nat} {d : D}, RVs K A N H ds vs → ds[i]? = some d → ∃ v, vs[i]? = some v ∧ RV K A N H d v
  | [], _, _, _, _, e => by simp at e
  | d' :: ds, _, 0, d, h, e => by
    obtain ⟨v', r, rfl, h2, t⟩ := h.cons'
    simp at e; subst e; exact ⟨v', rfl, h2⟩
  | d' :: ds, _, i + 1, d, h, e => by
    obtain ⟨v', r, rfl, h2, t⟩ := h.cons'
    obtain ⟨v, e1, e2⟩ := RVs.get (i := i) t (by simpa using e)
    exact ⟨v, by simpa using e1, e2⟩
theorem RVs.gets : ∀ {ds : List D} {vs : List V} {i : Nat} {v : V}, RVs K A N H ds vs → vs[i]? = some v → ∃ d, ds[i]? = some d ∧ RV K A N H d v := fun {ds vs i v} h e => by
  have hl := h.length
  have hi : i < ds.length := by
    have := (List.getElem?_eq_some_iff.mp e).1
    omega
  obtain ⟨v', e1, e2⟩ := h.get (List.getElem?_eq_getElem hi)
  rw [e] at e1; cases e1
  exact ⟨_, List.getElem?_eq_getElem hi, e2⟩
theorem RVs.reverse : ∀ {ds : List D} {vs : List V}, RVs K A N H ds vs → RVs K A N H ds.reverse vs.reverse
  | [], _, h => by rw [h.nil']; exact .nil
  | d :: ds, _, h => by
    obtain ⟨v, r, rfl, h1, t⟩ := h.cons'
    rw [List.reverse_cons, List.reverse_cons]
    exact (RVs.reverse t).append (.cons h1 .nil)
theorem RVs.flatten (h : RVs K A N H ds vs) : ∀ n : Nat, RVs K A N H (List.replicate n ds).flatten (List.replicate n vs).flatten
  | 0 => .nil
  | n + 1 => by
    rw [List.replicate_succ, List.replicate_succ, List.flatten_cons, List.flatten_cons]
    exact h.append (RVs.flatten h n)
theorem RVs.snoc (h : RVs K A N H ds vs) (h1 : RV K A N H d v) : RVs K A N H (ds ++ [d]) (vs ++ [v]) := h.append (.cons h1 .nil)
theorem RVs.ints : ∀ {ns : List Int} {vs : List V}, RVs K A N H (ns.map D.int) vs → vs = ns.map V.int
  | [], _, h => h.nil'
  | n :: ns, _, h => by
    obtain ⟨v, r, rfl, h1, t⟩ := RVs.cons' h
    unfold RV at h1
    rw [h1, RVs.ints t]; rfl
theorem RVs.of_ints : ∀ (ns : List Int), RVs K A N H (ns.map D.int) (ns.map V.int)
  | [] => .nil
  | n :: ns => .cons (by unfold RV; rfl) (RVs.of_ints ns)
theorem RVs.bls : ∀ {ns : List Bool} {vs : List V}, RVs K A N H (ns.map D.bl) vs → vs = ns.map V.bl
  | [], _, h => h.nil'
  | n :: ns, _, h => by
    obtain ⟨v, r, rfl, h1, t⟩ := RVs.cons' h
    unfold RV at h1
    rw [h1, RVs.bls t]; rfl
/-- what stays -/
def TupH (w : HO) : Prop := (∃ xs, w = .tup xs) ∨ ∃ o xs, w = .frz o (.tup xs)
def Stay (A : AH) (N : Addr → Prop) (H : Hp) (A' : AH) (N' : Addr → Prop) (H' : Hp) : Prop := (∀ b w, TupH w → H b = some w → H' b = some w) ∧ (∀ b xs, RdL A N H b xs → RdL A' N' H' b xs) ∧ ∀ b ws, RdD A N H b ws → RdD A' N' H' b ws
theorem Stay.refl : Stay A N H A N H := ⟨fun _ _ _ h => h, fun _ _ h => h, fun _ _ h => h⟩
theorem SqT.stay (s : Stay A N H A' N' H') (h : SqT K H a vs) : SqT K H' a vs := by
  rcases h with h | h
  · rcases h with h | ⟨o, h⟩
    · exact .inl (.inl (s.1 _ _ (.inl ⟨_, rfl⟩) h))
    · exact .inl (.inr ⟨o, s.1 _ _ (.inr ⟨_, _, rfl⟩) h⟩)
  · exact .inr h
theorem SqR.stay (s : Stay A N H A' N' H') (h : SqR K A N H a vs) : SqR K A' N' H' a vs := by
  rcases h with h | h
  · exact .inl (s.2.1 _ _ h)
  · exact .inr h
mutual
theorem RV.stay (s : Stay A N H A' N' H') : ∀ (d : D) (v : V), RV K A N H d v → RV K A' N' H' d v
  | .non, v, h => by unfold RV at *; exact h
  | .bl b, v, h => by unfold RV at *; exact h
  | .int i, v, h => by unfold RV at *; exact h
  | .str x, v, h => by unfold RV at *; exact h
  | .ref a, v, h => by unfold RV at *; exact h
  | .tup ds, v, h => by
    unfold RV at *
    obtain ⟨a, vs, e, h1, h2⟩ := h
    exact ⟨a, vs, e, DL.SqT.stay s h1, RVs.stay s ds vs h2⟩
  | .rol ds, v, h => by
    unfold RV at *
    obtain ⟨a, vs, e, h1, h2⟩ := h
    exact ⟨a, vs, e, DL.SqR.stay s h1, RVs.stay s ds vs h2⟩
  | .fl ds, v, h => by
    unfold RV at *
    obtain ⟨a, vs, e, h1, h2⟩ := h
    exact ⟨a, vs, e, s.2.1 _ _ h1, RVs.stay s ds vs h2⟩
  | .ptp ds, v, h => by
    unfold RV at *
    obtain ⟨a, o, vs, e, h1, h2, h3⟩ := h
    exact ⟨a, o, vs, e, s.1 _ _ (.inr ⟨_, _, rfl⟩) h1, h2, RVs.stay s ds vs h3⟩
  | .rod ks ds, v, h => by
    unfold RV at *
    obtain ⟨a, ws, e, h1, h2, h3⟩ := h
    exact ⟨a, ws, e, s.2.2 _ _ h1, h2, RVs.stay s ds _ h3⟩
theorem RVs.stay (s : Stay A N H A' N' H') : ∀ (ds : List D) (vs : List V), RVs K A N H ds vs → RVs K A' N' H' ds vs
  | [], vs, h => by unfold RVs at *; exact h
  | d :: ds, vs, h => by
    unfold RVs at *
    obtain ⟨v, r, e, h1, h2⟩ := h
    exact ⟨v, r, e, RV.stay s d v h1, RVs.stay s ds r h2⟩
end
theorem RKs.stay {kvs : List (Key × D)} {ks : List (Key × V)} (s : Stay A N H A' N' H') (h : RKs K A N H kvs ks) : RKs K A' N' H' kvs ks := ⟨h.1, RVs.stay s _ _ h.2⟩
theorem RO.has (h : RO L A N H a o) : ∃ u, H a = some u ∧ (∀ xs, u ≠ .tup xs) ∧ ∀ ob xs, u ≠ .frz ob (.tup xs) := by
  cases o with
  | lst ds => obtain ⟨vs, e, _⟩ := h; exact ⟨_, e, (by intro _ z; cases z), (by intro _ _ z; cases z)⟩
  | dk kvs => obtain ⟨vs, e, _⟩ := h; exact ⟨_, e, (by intro _ z; cases z), (by intro _ _ z; cases z)⟩
  | dkl kvs u => obtain ⟨e, o, vs, rfl, _⟩ := h; exact ⟨_, e, (by intro _ z; cases z), (by intro _ _ z; cases z)⟩
  | ins C fs => obtain ⟨dx, vs, e, _⟩ := h; exact ⟨_, e, (by intro _ z; cases z), (by intro _ _ z; cases z)⟩
  | dt kvs => obtain ⟨ws, e, _⟩ := h; exact ⟨_, e, (by intro _ z; cases z), (by intro _ _ z; cases z)⟩
theorem RA.non (r : RA L A N H) (h : H a = none) : A a = none := by
  cases e : A a with
  | none => rfl
  | some o => obtain ⟨u, e1, _⟩ := RO.has (r a o e); rw [h] at e1; cases e1
theorem RA.tup (r : RA L A N H) (h : Rd H a (.tup vs)) : A a = none := by
  cases e : A a with
  | none => rfl
  | some o =>
    obtain ⟨u, e1, e2, e3⟩ := RO.has (r a o e)
    rcases h with h | ⟨ob, h⟩
    · rw [h] at e1; cases e1; exact absurd rfl (e2 _)
    · rw [h] at e1; cases e1; exact absurd rfl (e3 _ _)
theorem RA.tup' (r : RA L A N H) {w : HO} (t : TupH w) (h : H a = some w) : A a = none := by
  rcases t with ⟨xs, rfl⟩ | ⟨o, xs, rfl⟩
  · exact r.tup (.inl h)
  · exact r.tup (.inr ⟨o, h⟩)
theorem Ext.rd {u : HO} (x : Ext A H A' H') (h : Rd H b u) (n : A b = none) : Rd H' b u ∧ A' b = none := by
  rcases h with h | ⟨o, h⟩
  · obtain ⟨h1, h2⟩ := x b _ h n; exact ⟨.inl h1, h2⟩
  · obtain ⟨h1, h2⟩ := x b _ h n; exact ⟨.inr ⟨o, h1⟩, h2⟩
theorem Ext.stay (x : Ext A H A' H') (r : RA L A N H) : Stay A N H A' N H' :=
  ⟨fun b w t h => (x b w h (r.tup' t h)).1, fun b xs h => let q := x.rd h.1 h.2.1; ⟨q.1, q.2, h.2.2⟩, fun b xs h => let q := x.rd h.1 h.2.1; ⟨q.1, q.2, h.2.2⟩⟩
theorem Ext.refl (A : AH) (H : Hp) : Ext A H A H := fun _ _ h k => ⟨h, k⟩
theorem Ext.trans (x : Ext A H A1 H1) (y : Ext A1 H1 A' H') : Ext A H A' H' := fun b o h k => let ⟨h1, k1⟩ := x b o h k; y b o h1 k1
theorem Ext.sub (x : Ext A H A1 H1) (s : Sub A' A1) : Ext A H A' H1 := fun b o h k => let ⟨h1, k1⟩ := x b o h k; ⟨h1, s.non k1⟩
/-- what is forgotten -/
theorem Stay.sub (s : Sub A' A) : Stay A N H A' N H := ⟨fun _ _ _ h => h, fun b xs h => ⟨h.1, s.non h.2.1, h.2.2⟩, fun b xs h => ⟨h.1, s.non h.2.1, h.2.2⟩⟩
theorem RO.stay (s : Stay A N H A' N' H') (e : ∀ u, H a = some u → H' a = some u) (h : RO L A N H a o) : RO L A' N' H' a o := by
  cases o with
  | lst ds => obtain ⟨vs, q, r⟩ := h; exact ⟨vs, e _ q, RVs.stay s _ _ r⟩
  | dk kvs => obtain ⟨vs, q, r⟩ := h; exact ⟨vs, e _ q, r.stay s⟩
  | dkl kvs u => obtain ⟨q, o, vs, q2, r⟩ := h; exact ⟨e _ q, o, vs, q2, r.stay s⟩
  | ins C fs => obtain ⟨dx, vs, q, r, z⟩ := h; exact ⟨dx, vs, e _ q, RVs.stay s _ _ r, z⟩
  | dt kvs => obtain ⟨ws, q, k, r⟩ := h; exact ⟨ws, e _ q, k, RVs.stay s _ _ r⟩
theorem RA.sub (r : RA L A N H) (s : Sub A' A) : RA L A' N H := ⟨fun a o e => RO.stay (.sub s) (fun _ q => q) (r a o (s a o e)), fun a h => ⟨s.non (r.hid a h).1, (r.hid a h).2⟩⟩
theorem RA.nn (r : RA L A N H) (e : A a = some o) : ¬ N a := fun h => by rw [(r.hid a h).1] at e; cases e
theorem RS.stay {δ : DSt} {σ : L2.St} (s : Stay A N H A' N' H') (r : RS K A N H δ σ) : RS K A' N' H' δ σ := ⟨r.1, fun i d e => let ⟨v, e1, e2⟩ := r.2 i d e; ⟨v, e1, RV.stay s d v e2⟩⟩
/-- a new object, tracked by both -/
theorem Ext.new {u : HO} (r : RA L A N H) (n : H a = none) : Ext A H (up A a o) (upd H a u) := fun b w h k => by
  have z : b ≠ a := ne_of_none h n
  rw [upd_ne z, up_ne z]; exact ⟨h, k⟩
theorem Ext.tupNew {u : HO} (r : RA L A N H) (n : H a = none) : Ext A H A (upd H a u) := fun b w h k => by
  have z : b ≠ a := ne_of_none h n
  rw [upd_ne z]; exact ⟨h, k⟩
theorem RA.new {u : HO} (r : RA L A N H) (n : H a = none) (h : RO L (up A a o) N (upd H a u) a o) : RA L (up A a o) N (upd H a u) := ⟨fun b w e => by
  by_cases z : b = a
  · subst z; rw [up_same] at e; cases e; exact h
  · rw [up_ne z] at e
    exact RO.stay ((Ext.new r n).stay r) (fun x q => by rw [upd_ne z]; exact q) (r b w e), fun b hb => by
  obtain ⟨h1, w, h2⟩ := r.hid b hb
  have z : b ≠ a := fun z => by subst z; rw [n] at h2; cases h2
  rw [up_ne z, upd_ne z]; exact ⟨h1, w, h2⟩⟩
/-- a new thing that A does not tell -/
theorem RA.tupNew {u : HO} (r : RA L A N H) (n : H a = none) : RA L A N (upd H a u) := ⟨fun b w e => by
  have z : b ≠ a := fun z => by subst z; rw [r.non n] at e; cases e
  exact RO.stay ((Ext.tupNew r n).stay r) (fun x q => by rw [upd_ne z]; exact q) (r b w e), fun b hb => by
  obtain ⟨h1, w, h2⟩ := r.hid b hb
  have z : b ≠ a := fun z => by subst z; rw [n] at h2; cases h2
  rw [upd_ne z]; exact ⟨h1, w, h2⟩⟩
/-- a write -/
theorem Ext.put {u : HO} (e : A a = some o) {o' : AO} : Ext A H (up A a o') (upd H a u) := fun b w h k => by
  have z : b ≠ a := fun z => by subst z; rw [e] at k; cases k
  rw [upd_ne z, up_ne z]; exact ⟨h, k⟩
theorem RA.put {u : HO} (r : RA L A N H) (e : A a = some o) {o' : AO} (h : RO L (up A a o') N (upd H a u) a o') : RA L (up A a o') N (upd H a u) := ⟨fun b w q => by
  by_cases z : b = a
  · subst z; rw [up_same] at q; cases q; exact h
  · rw [up_ne z] at q
    exact RO.stay ((Ext.put e).stay r) (fun x q => by rw [upd_ne z]; exact q) (r b w q), fun b hb => by
  obtain ⟨h1, w, h2⟩ := r.hid b hb
  have z : b ≠ a := fun z => by subst z; rw [e] at h1; cases h1
  rw [up_ne z, upd_ne z]; exact ⟨h1, w, h2⟩⟩
/-- forgotten: A without a -/
def del (A : AH) (a : Addr) : AH := fun b => if b = a then none else A b
theorem del_same : del A a a = none := by unfold del; rw [if_pos rfl]
theorem del_up (n : A a = none) : del (up A a o) a = A := by
  funext b; unfold del up; split
  · next z => rw [z, n]
  · rfl
theorem Sub.del : Sub (del A a) A := fun b o e => by
  unfold DL.del at e; split at e
  · cases e
  · exact e
/-- what was told is told no more: a list, a dict that no one changes now -/
theorem fl_of (e : A a = some (.lst ds)) (r : RA L A N H) : RV L.K (del A a) N H (.fl ds) (.ref a) := by
  obtain ⟨vs, h1, h2⟩ := r a _ e
  unfold RV
  exact ⟨a, vs, rfl, ⟨.inl h1, del_same, r.nn e⟩, RVs.stay (.sub .del) _ _ h2⟩
theorem rod_of {kvs : List (Key × D)} (e : A a = some (.dk kvs)) (r : RA L A N H) : RV L.K (del A a) N H (.rod (kvs.map (·.1)) (kvs.map (·.2))) (.ref a) := by
  obtain ⟨ws, h1, h2, h3⟩ := r a _ e
  unfold RV
  exact ⟨a, ws, rfl, ⟨.inl h1, del_same, r.nn e⟩, h2, RVs.stay (.sub .del) _ _ h3⟩
end
end DL

set_option Elab.async false
set_option linter.all false
set_option maxRecDepth 100000
/-! the small language and what it means -/
namespace DL
open PySem PySem.Spec PyProof.Rows L2

inductive BO where | add | sub | mul | fdiv | mod
inductive CO where | eq | ne | lt | le | gt | ge | inn | nin | kin | nkin | din | ndin | sin | nsin
inductive BI where | len | sum | all | any | tuple | list | sorted | int1 | str1 | min1 | max1 | min2 | max2 | ssort | sitems | sort3 | sortd | lend | tupd | listd | dict | dictp | dictt | repr | ints | smul | dnt
inductive TyK where | int | bool | tuple | list | str
inductive BM where | append | extend | pop | popi | get | dpop | items | join | split | strip | setdefault
inductive Ty3 where | list | dict | str
inductive SrcK where | seq | rng | zip | enum | ezip | keys | rng3 | sgn | zipm
inductive Tg where | nm (i : Nat) | tp (ts : List Tg)
mutual
inductive IE where
  | var (i : Nat) | cst (d : D) | tup (es : List IE) | lst (es : List IE)
  | bin (o : BO) (a b : IE) | neg (a : IE)
  | cmp (o : CO) (a b : IE) | chn (o p : CO) (a b c : IE) | ch3 (o p q : CO) (a b c d : IE)
  | isn (neg : Bool) (a : IE) | isb (neg : Bool) (a b : IE)
  | notv (a : IE) | andv (a b : IE) | orv (a b : IE) | ite (t : IT) (a b : IE)
  | call (f : Nat) (es : List IE) | make (C : Nat) (es : List IE) | meth (m : Nat) (o : IE) (es : List IE) | fld (C i : Nat) (o : IE)
  | bi (b : BI) (es : List IE) | isi (k : TyK) (a : IE) | rgl (t : Bool) (es : List IE)
  | ix (a i : IE) | cut (a : IE) (lo hi : Option IE) | rev (a : IE)
  | comp (k : SrcK) (es : List IE) (vs : List Nat) (tg : Tg) (t : IT) (e : IE)
  | bm (m : BM) (o : IE) (es : List IE) | dic (es : List IE) | fstr (es : List IE) | fz (e : IE) | lk (e : IE) | step (a : IE) (k : Nat) | wk (e : IE) | ptl (e : IE) | ptd (es : List IE) | isx (x : Nat) (a : IE)
  | compx (k : SrcK) (es : List IE) (vs : List Nat) (tg : Tg) (t : IT) (e : IE) | ixt (a k : IE) | tnin (k a : IE) | cutk (a : IE) (m : Nat)
inductive IT where
  | val (e : IE) | and (a b : IT) | or (a b : IT) | not (a : IT) | yes
end
inductive IS where
  | set (i : Nat) (e : IE) | tset (tg : Tg) (e : IE) | par (is : List Nat) (es : List IE)
  | sub (o i e : IE) | put (C k : Nat) (o e : IE) | expr (e : IE) | iff (t : IT) (a b : List IS)
  | for (k : SrcK) (es : List IE) (tg : Tg) (body : List IS) | whil (t : IT) (body : List IS)
  | ret (e : IE) | pass | cont | rais (x : Nat) | tryx (body : List IS) (xs : List Nat) (suite : List IS) | lks (s : IS) | sub2 (o i o2 i2 e : IE) | subt (o k e : IE) | tryk (body : List IS) (xs : List (Nat × D)) (o : Option Nat) (j : Nat)

abbrev QE := D → AH → Prop
abbrev XQ := Nat → AH → Prop
abbrev XP := Nat → DSt → AH → Prop
abbrev WE := DSt → AH → QE → XQ → Prop
abbrev WT := DSt → AH → (Bool → AH → Prop) → XQ → Prop
abbrev WA := DSt → AH → (List D → AH → Prop) → XQ → Prop
/-- what a call of a def comes to -/
abbrev CallT := Nat → List D → AH → QE → XQ → Prop
/-- the table of defs and classes -/
structure FnD where
  np : Nat
  ns : Nat
  body : List IS
structure ClD where
  nf : Nat
  init : Nat
  ms : List (Nat × Nat)
structure Gm where
  fn : Nat → Option FnD
  cl : Nat → Option ClD

/-! ### operations on values -/
def seqD (A : AH) : D → Option (List D)
  | .tup xs => some xs
  | .ptp xs => some xs
  | .rol xs => some xs
  | .fl xs => some xs
  | .ref a => match A a with | some (.lst xs) => some xs | _ => none
  | _ => none
def lstD (A : AH) : D → Option (List D)
  | .rol xs => some xs
  | .fl xs => some xs
  | .ref a => match A a with | some (.lst xs) => some xs | _ => none
  | _ => none
/-- a list that may be added to another one -/
def flD (A : AH) : D → Option (List D)
  | .fl xs => some xs
  | .ref a => match A a with | some (.lst xs) => some xs | _ => none
  | _ => none
def keyD : D → Option Key | .int i => some (.inl i) | .str x => some (.inr x) | _ => none
def ofKey : Key → D | .inl i => .int i | .inr x => .str x
/-- a dict as data -/
def dicD (A : AH) : D → Option (List (Key × D))
  | .rod ks xs => some (ks.zip xs)
  | .ref a => match A a with | some (.dk kvs) => some kvs | some (.dkl kvs _) => some kvs | _ => none
  | _ => none
def valD (kvs : List (Key × D)) (k : Key) : Option D := (kvs.find? fun kv => decide (kv.1 = k)).map (·.2)
def putD (kvs : List (Key × D)) (k : Key) (v : D) : List (Key × D) :=
  if (kvs.any fun kv => decide (kv.1 = k)) = true then kvs.map (fun kv => if kv.1 = k then (kv.1, v) else kv) else kvs ++ [(k, v)]
/-- keys that are tuples -/
def valT (kvs : List (List Key × D)) (k : List Key) : Option D := (kvs.find? fun kv => decide (kv.1 = k)).map (·.2)
def putT (kvs : List (List Key × D)) (k : List Key) (v : D) : List (List Key × D) :=
  if (kvs.any fun kv => decide (kv.1 = k)) = true then kvs.map (fun kv => if kv.1 = k then (kv.1, v) else kv) else kvs ++ [(k, v)]
def dropD (kvs : List (Key × D)) (k : Key) : List (Key × D) := kvs.filter fun kv => decide (kv.1 ≠ k)
def mergeD (kvs more : List (Key × D)) : List (Key × D) := more.foldl (fun acc kv => putD acc kv.1 kv.2) kvs
def kv1 : D → Option (Key × D) | .tup [k, v] => (keyD k).map fun k => (k, v) | _ => none
def kvs2 : List D → Option (List (Key × D))
  | [] => some []
  | k :: v :: r => match keyD k, kvs2 r with | some k, some r => some ((k, v) :: r) | _, _ => none
  | _ => none
def tri1 : D → Option (Int × Int × Int) | .tup [.int i, .int j, .int k] => some (i, j, k) | _ => none
def kint1 : Key → Option Int | .inl i => some i | .inr _ => none
def int1 : D → Option Int | .int i => some i | _ => none
def bl1 : D → Option Bool | .bl i => some i | _ => none
def str1 : D → Option Str | .str i => some i | _ => none
def pr1 : D → Option (Int × Int) | .tup [.int i, .int j] => some (i, j) | _ => none
def alls {α : Type} (f : D → Option α) : List D → Option (List α)
  | [] => some []
  | d :: ds => match f d, alls f ds with | some x, some xs => some (x :: xs) | _, _ => none
def keyT : D → Option (List Key) | .tup ds => alls keyD ds | _ => none
def pds (f : D → Option PyData) : List D → Option (List PyData)
  | [] => some []
  | d :: ds => match f d, pds f ds with | some x, some xs => some (x :: xs) | _, _ => none
/-- a value as plain data -/
def pd (A : AH) : Nat → D → Option PyData
  | _, .non => some .none
  | _, .bl b => some (.bool b)
  | _, .int i => some (.int i)
  | _, .str x => if PyData.strOk x = true then some (.str x) else none
  | 0, .tup _ => none
  | 0, .rol _ => none
  | 0, .fl _ => none
  | 0, .ref _ => none
  | _, .rod _ _ => none
  | _, .ptp _ => none
  | n + 1, .tup ds => (pds (pd A n) ds).map .tuple
  | n + 1, .rol ds => (pds (pd A n) ds).map .list
  | n + 1, .fl ds => (pds (pd A n) ds).map .list
  | n + 1, .ref a => match A a with | some (.lst ds) => (pds (pd A n) ds).map .list | _ => none
def leP (p q : Int × Int) : Bool := decide (p.1 < q.1 ∨ (p.1 = q.1 ∧ p.2 ≤ q.2))
def sortP (l : List (Int × Int)) : List (Int × Int) := l.mergeSort leP
def leT (p q : Int × Int × Int) : Bool := decide (p.1 < q.1 ∨ (p.1 = q.1 ∧ (p.2.1 < q.2.1 ∨ (p.2.1 = q.2.1 ∧ p.2.2 ≤ q.2.2))))
def sortT (l : List (Int × Int × Int)) : List (Int × Int × Int) := l.mergeSort leT
def triD (p : Int × Int × Int) : D := .tup [.int p.1, .int p.2.1, .int p.2.2]
def sortI (l : List Int) : List Int := l.mergeSort fun a b => decide (a ≤ b)
def prD (p : Int × Int) : D := .tup [.int p.1, .int p.2]
def isNonD : D → Bool | .non => true | _ => false
def flatD : D → Bool
  | .non => true | .bl _ => true | .int _ => true | .str _ => true | _ => false
def flV : D → V
  | .non => .non | .bl b => .bl b | .int i => .int i | .str x => .str x | _ => .non
def cutL {α : Type} (xs : List α) (lo hi : Option Int) : List α := (xs.drop (HT.sIx xs.length 0 lo)).take (HT.sIx xs.length xs.length hi - HT.sIx xs.length 0 lo)

def newD (A : AH) (kvs : List (Key × D)) (Q : QE) : Prop := ∀ p, A p = none → Q (.ref p) (up A p (.dk kvs))
/-- told no more -/
def dFz (x : D) (A : AH) (Q : QE) : Prop := match x with
  | .ref a => match A a with
    | some (.lst xs) => Q (.fl xs) (del A a)
    | some (.dk kvs) => Q (.rod (kvs.map (·.1)) (kvs.map (·.2))) (del A a)
    | _ => Q (.ref a) A
  | x => Q x A
def newL (A : AH) (xs : List D) (Q : QE) : Prop := ∀ p, A p = none → Q (.ref p) (up A p (.lst xs))
def dBin (o : BO) (x y : D) (A : AH) (Q : QE) : Prop := match o, x, y with
  | .add, .int i, .int j => Q (.int (i + j)) A
  | .add, .tup xs, .tup ys => xs.length + ys.length ≤ sizeLine ∧ Q (.tup (xs ++ ys)) A
  | .add, .ref a, .ref b => match A a, A b with
    | some (.lst xs), some (.lst ys) => xs.length + ys.length ≤ sizeLine ∧ newL A (xs ++ ys) Q
    | _, _ => False
  | .add, .str s, .str t => s.length + t.length ≤ sizeLine ∧ Q (.str (s ++ t)) A
  | .sub, .int i, .int j => Q (.int (i - j)) A
  | .mul, .int i, .int j => CMul i j ∧ Q (.int (i * j)) A
  | .mul, .ref a, .int k => match A a with
    | some (.lst xs) => (-(2 ^ 63) ≤ k ∧ k < 2 ^ 63) ∧ xs.length * k.toNat ≤ sizeLine ∧ newL A (List.replicate k.toNat xs).flatten Q
    | _ => False
  | .add, .fl xs, y => match flD A y with
    | some ys => xs.length + ys.length ≤ sizeLine ∧ newL A (xs ++ ys) Q
    | none => False
  | .add, .ref a, .fl ys => match A a with
    | some (.lst xs) => xs.length + ys.length ≤ sizeLine ∧ newL A (xs ++ ys) Q
    | _ => False
  | .mul, .fl xs, .int k => (-(2 ^ 63) ≤ k ∧ k < 2 ^ 63) ∧ xs.length * k.toNat ≤ sizeLine ∧ newL A (List.replicate k.toNat xs).flatten Q
  | .mul, .tup xs, .int k => 2 ≤ k ∧ k ≤ 1000 ∧ xs.length ≤ 1000 ∧ Q (.tup (List.replicate k.toNat xs).flatten) A
  | .fdiv, .int i, .int j => CDiv i j ∧ Q (.int (i / j)) A
  | .mod, .int i, .int j => 0 < j ∧ Q (.int (i % j)) A
  | _, _, _ => False
def dCmp (o : CO) (x y : D) (A : AH) (Q : QE) : Prop := match o with
  | .eq => match pd A 6 x, pd A 6 y with | some p, some q => Q (.bl (PyData.eqv p q)) A | _, _ => False
  | .ne => match pd A 6 x, pd A 6 y with | some p, some q => Q (.bl (!PyData.eqv p q)) A | _, _ => False
  | .lt => match x, y with | .int i, .int j => Q (.bl (decide (i < j))) A | _, _ => False
  | .le => match x, y with | .int i, .int j => Q (.bl (decide (i ≤ j))) A | _, _ => False
  | .gt => match x, y with | .int i, .int j => Q (.bl (decide (j < i))) A | _, _ => False
  | .ge => match x, y with | .int i, .int j => Q (.bl (decide (j ≤ i))) A | _, _ => False
  | .inn => match seqD A y with | some ys => flatD x = true ∧ ys.all flatD = true ∧ Q (.bl (inV (flV x) (ys.map flV))) A | _ => False
  | .kin => match dicD A y, keyD x with | some kvs, some k => Q (.bl (valD kvs k).isSome) A | _, _ => False
  | .nkin => match dicD A y, keyD x with | some kvs, some k => Q (.bl (!(valD kvs k).isSome)) A | _, _ => False
  | .din => match seqD A y with | some ys => (match pd A 6 x, pds (pd A 6) ys with | some p, some ps => Q (.bl (ps.any fun q => PyData.eqv q p)) A | _, _ => False) | none => False
  | .ndin => match seqD A y with | some ys => (match pd A 6 x, pds (pd A 6) ys with | some p, some ps => Q (.bl (!ps.any fun q => PyData.eqv q p)) A | _, _ => False) | none => False
  | .sin => match x, y with | .str t, .str z => (match t.cps.toList with | [c] => Q (.bl (decide (c ∈ z.cps.toList))) A | _ => False) | _, _ => False
  | .nsin => match x, y with | .str t, .str z => (match t.cps.toList with | [c] => Q (.bl (!decide (c ∈ z.cps.toList))) A | _ => False) | _, _ => False
  | .nin => match seqD A y with | some ys => flatD x = true ∧ ys.all flatD = true ∧ Q (.bl (!inV (flV x) (ys.map flV))) A | _ => False
def dTru (x : D) (A : AH) (Q : Bool → AH → Prop) : Prop := match x with
  | .non => Q false A
  | .bl b => Q b A
  | .int i => Q (i != 0) A
  | .str y => y.length ≤ sizeLine ∧ Q ((y.length : Int) != 0) A
  | .tup xs => Q (!xs.isEmpty) A
  | .rol xs => Q (!xs.isEmpty) A
  | .fl xs => Q (!xs.isEmpty) A
  | .rod _ _ => False
  | .ptp _ => False
  | .ref a => match A a with
    | some (.lst xs) => Q (!xs.isEmpty) A
    | some (.dk kvs) => Q (!kvs.isEmpty) A
    | _ => False
def isD (k : TyK) (A : AH) : D → Option Bool
  | .non => some false
  | .bl _ => some (match k with | .int => true | .bool => true | _ => false)
  | .int _ => some (match k with | .int => true | _ => false)
  | .str _ => some (match k with | .str => true | _ => false)
  | .tup _ => some (match k with | .tuple => true | _ => false)
  | .rol _ => some (match k with | .list => true | _ => false)
  | .fl _ => some (match k with | .list => true | _ => false)
  | .rod _ _ => some false
  | .ptp _ => none
  | .ref a => match A a with | some (.lst _) => some (match k with | .list => true | _ => false) | _ => none
def dIx (x i : D) (A : AH) (Q : QE) : Prop := match i with
  | .int k => match seqD A x with
    | some xs => match atI xs k with | some d => Q d A | none => False
    | none => match x with
      | .str z => z.length ≤ sizeLine ∧ (match atI z.cps.toList k with | some c => Q (.str ⟨#[c]⟩) A | none => False)
      | _ => match dicD A x with
        | some kvs => match valD kvs (.inl k) with | some v => Q v A | none => False
        | none => False
  | .str z => match dicD A x with
    | some kvs => match valD kvs (.inr z) with | some v => Q v A | none => False
    | none => False
  | _ => False
def dCut (x : D) (lo hi : Option Int) (A : AH) (Q : QE) : Prop := match x with
  | .tup xs => Q (.tup (cutL xs lo hi)) A
  | .rol xs => newL A (cutL xs lo hi) Q
  | .fl xs => newL A (cutL xs lo hi) Q
  | .str z => z.length ≤ sizeLine ∧ Q (.str (cutS z lo hi)) A
  | .ref a => match A a with | some (.lst xs) => newL A (cutL xs lo hi) Q | _ => False
  | _ => False
def stepL {α : Type} (k : Nat) (xs : List α) : List α := (List.range ((xs.length + k - 1) / k)).filterMap fun i => xs[i * k]?
def dRev (x : D) (A : AH) (Q : QE) : Prop := match x with
  | .tup xs => Q (.tup xs.reverse) A
  | .rol xs => newL A xs.reverse Q
  | .fl xs => newL A xs.reverse Q
  | .ref a => match A a with | some (.lst xs) => newL A xs.reverse Q | _ => False
  | _ => False
def dSort (x : D) (A : AH) (Q : QE) : Prop := match seqD A x with
  | some xs => match alls int1 xs with
    | some ns => newL A ((sortI ns).map .int) Q
    | none => match alls pr1 xs with
      | some ps => newL A ((sortP ps).map prD) Q
      | none => False
  | none => False
/-- sorted(set(xs)) -/
def ddI : List Int → List Int
  | [] => []
  | x :: r => if (ddI r).contains x then ddI r else x :: ddI r
def dBi (b : BI) (ds : List D) (A : AH) (Q : QE) : Prop := match b, ds with
  | .len, [.str z] => z.length ≤ sizeLine ∧ Q (.int z.length) A
  | .len, [x] => match seqD A x with
    | some xs => Q (.int xs.length) A
    | none => False
  | .lend, [x] => match dicD A x with | some kvs => Q (.int kvs.length) A | none => False
  | .sum, [x] => match lstD A x with
    | some xs => match alls int1 xs with | some ns => Q (.int ns.sum) A | none => False
    | none => False
  | .all, [x] => match lstD A x with
    | some xs => match alls bl1 xs with | some ns => Q (.bl (ns.all id)) A | none => False
    | none => False
  | .any, [x] => match lstD A x with
    | some xs => match alls bl1 xs with | some ns => Q (.bl (ns.any id)) A | none => False
    | none => False
  | .tuple, [x] => match seqD A x with
    | some xs => Q (.tup xs) A
    | none => False
  | .tupd, [x] => match dicD A x with | some kvs => Q (.tup (kvs.map fun kv => ofKey kv.1)) A | none => False
  | .list, [x] => match seqD A x with
    | some xs => newL A xs Q
    | none => False
  | .listd, [x] => match dicD A x with | some kvs => newL A (kvs.map fun kv => ofKey kv.1) Q | none => False
  | .sort3, [x] => match seqD A x with
    | some xs => match alls tri1 xs with | some ps => newL A ((sortT ps).map triD) Q | none => False
    | none => False
  | .sortd, [x] => match dicD A x with
    | some kvs => match alls int1 (kvs.map fun kv => ofKey kv.1) with | some ns => newL A ((sortI ns).map .int) Q | none => False
    | none => False
  | .sorted, [x] => dSort x A Q
  | .ssort, [x] => match lstD A x with
    | some xs => match alls int1 xs with | some ns => ns.length ≤ 1000 ∧ newL A ((sortI (ddI ns)).map .int) Q | none => False
    | none => False
  | .sitems, [.ref a] => match A a with
    | some (.dk kvs) => match alls pr1 (kvs.map fun kv => .tup [ofKey kv.1, kv.2]) with | some ps => newL A ((sortP ps).map prD) Q | none => False
    | _ => False
  | .dict, [x] => match dicD A x with
    | some kvs => newD A kvs Q
    | none => False
  | .dictp, [x] => match lstD A x with
    | some xs => match alls kv1 xs with | some kvs => newD A (mergeD [] kvs) Q | none => False
    | none => False
  | .dictt, [x] => match x with
    | .ptp xs => match alls kv1 xs with | some kvs => newD A (mergeD [] kvs) Q | none => False
    | _ => False
  | .int1, [.int i] => Q (.int i) A
  | .int1, [.bl k] => Q (.int (if k then 1 else 0)) A
  | .str1, [.int i] => i.natAbs.log2 < 1920 ∧ Q (.str (toString i)) A
  | .ints, [.str z] => match PySem.intText? z with | some i => z.length ≤ 640 ∧ Q (.int i) A | none => False
  | .dnt, [] => ∀ p, A p = none → Q (.ref p) (up A p (.dt []))
  | .repr, [.tup xs] => match pd A 6 (.tup xs) with | some p => (p.showable = true ∧ p.hasDict = false ∧ p.shown.length ≤ sizeLine) ∧ Q (.str p.shown) A | none => False
  | .smul, [.str z, .int k] => (k = 0 ∧ Q (.str Str.empty) A) ∨ (k = 1 ∧ Q (.str z) A)
  | .min2, [.int i, .int j] => Q (.int (if j < i then j else i)) A
  | .max2, [.int i, .int j] => Q (.int (if j > i then j else i)) A
  | .min1, [x] => match lstD A x with
    | some xs => match alls int1 xs with
      | some ns => 0 < ns.length ∧ ∀ m, m ∈ ns → (∀ y, y ∈ ns → m ≤ y) → Q (.int m) A
      | none => False
    | none => False
  | .max1, [x] => match lstD A x with
    | some xs => match alls int1 xs with
      | some ns => 0 < ns.length ∧ ∀ m, m ∈ ns → (∀ y, y ∈ ns → y ≤ m) → Q (.int m) A
      | none => False
    | none => False
  | _, _ => False
def rgD (i j : Int) : List D := (List.range (j - i).toNat).map fun k => .int (i + (k : Nat))
def rgC (ds : List D) (R : Int → Int → Prop) : Prop := match ds with
  | [.int m] => R 0 m
  | [.int i, .int j] => R i j
  | _ => False
def dRgl (t : Bool) (ds : List D) (A : AH) (Q : QE) : Prop := rgC ds fun i j => RgOk i j ∧ (if t = true then Q (.tup (rgD i j)) A else newL A (rgD i j) Q)
def dBm (m : BM) (o : D) (ds : List D) (A : AH) (Q : QE) : Prop := match m, o, ds with
  | .append, .ref a, [x] => match A a with
    | some (.lst xs) => xs.length < sizeLine ∧ Q .non (up A a (.lst (xs ++ [x])))
    | _ => False
  | .extend, .ref a, [.ref b] => match A a, A b with
    | some (.lst xs), some (.lst ys) => xs.length + ys.length ≤ sizeLine ∧ Q .non (up A a (.lst (xs ++ ys)))
    | _, _ => False
  | .pop, .ref a, [] => match A a with
    | some (.lst xs) => match xs[xs.length - 1]? with
      | some y => Q y (up A a (.lst xs.dropLast))
      | none => False
    | _ => False
  | .popi, .ref a, [.int i] => match A a with
    | some (.lst xs) => (-(2 ^ 63) ≤ i ∧ i < 2 ^ 63) ∧ (match ixN xs.length i with
      | some k => match xs[k]? with | some y => Q y (up A a (.lst (xs.eraseIdx k))) | none => False
      | none => False)
    | _ => False
  | .extend, .ref a, [.fl ys] => match A a with
    | some (.lst xs) => xs.length + ys.length ≤ sizeLine ∧ Q .non (up A a (.lst (xs ++ ys)))
    | _ => False
  | .get, x, [k] => match dicD A x, keyD k with | some kvs, some k => Q ((valD kvs k).getD .non) A | _, _ => False
  | .get, x, [k, z] => match dicD A x, keyD k with | some kvs, some k => Q ((valD kvs k).getD z) A | _, _ => False
  | .dpop, .ref a, [k] => match A a, keyD k with
    | some (.dk kvs), some k => (match valD kvs k with | some v => Q v (up A a (.dk (dropD kvs k))) | none => False)
    | _, _ => False
  | .dpop, .ref a, [k, z] => match A a, keyD k with
    | some (.dk kvs), some k => (match valD kvs k with | some v => Q v (up A a (.dk (dropD kvs k))) | none => Q z A)
    | _, _ => False
  | .setdefault, .ref a, [k, z] => match A a, keyD k with
    | some (.dk kvs), some k => kvs.length < sizeLine ∧ (match valD kvs k with | some v => Q v A | none => Q z (up A a (.dk (putD kvs k z))))
    | _, _ => False
  | .join, .str y, [x] => match lstD A x with
    | some xs => match alls str1 xs with
      | some zs => (zs.map (·.length)).sum + zs.length * y.length ≤ 16777216 ∧ Q (.str (Txt.join y zs)) A
      | none => False
    | none => False
  | .split, .str z, [.str y] => (y.length == 0) = false ∧ z.length + 2 ≤ sizeLine ∧ newL A ((Txt.split z y).map .str) Q
  | .strip, .str z, [.str y] => z.length ≤ sizeLine ∧ Q (.str (Txt.stripChars z y)) A
  | _, _, _ => False
def tyB : BM → Ty3
  | .append => .list | .extend => .list | .pop => .list | .popi => .list
  | .get => .dict | .dpop => .dict | .items => .dict | .setdefault => .dict
  | .join => .str | .split => .str | .strip => .str
def isT (t : Ty3) (A : AH) (x : D) : Prop := match x with
  | .str _ => (match t with | .str => True | _ => False)
  | .ref a => match A a with
    | some (.lst _) => (match t with | .list => True | _ => False)
    | some (.dk _) => (match t with | .dict => True | _ => False)
    | some (.dkl _ _) => (match t with | .dict => True | _ => False)
    | _ => False
  | .rod _ _ => (match t with | .dict => True | _ => False)
  | _ => False
def dSub (o i v : D) (A : AH) (Q : AH → Prop) : Prop := match o, i with
  | .ref a, .int k => match A a with
    | some (.lst xs) => match ixN xs.length k with | some j => Q (up A a (.lst (xs.set j v))) | none => False
    | some (.dk kvs) => kvs.length < sizeLine ∧ Q (up A a (.dk (putD kvs (.inl k) v)))
    | _ => False
  | .ref a, .str z => match A a with
    | some (.dk kvs) => kvs.length < sizeLine ∧ Q (up A a (.dk (putD kvs (.inr z) v)))
    | _ => False
  | _, _ => False

def enumD : Nat → List D → List D
  | _, [] => []
  | k, x :: r => .tup [.int (k : Nat), x] :: enumD (k + 1) r
/-- what a loop walks: its items, and what must stand at each turn -/
def dSrc (k : SrcK) (ds : List D) (A : AH) (Q : List D → (AH → Prop) → Prop) : Prop := match k, ds with
  | .seq, [.tup xs] => Q xs (fun _ => True)
  | .seq, [.rol xs] => Q xs (fun _ => True)
  | .seq, [.fl xs] => Q xs (fun _ => True)
  | .seq, [.ref a] => match A a with | some (.lst xs) => Q xs (fun A' => A' a = some (.lst xs)) | _ => False
  | .rng, ds => rgC ds fun i j => (-(2 ^ 62) ≤ i ∧ i < 2 ^ 62 ∧ -(2 ^ 62) ≤ j ∧ j < 2 ^ 62) ∧ Q (rgD i j) (fun _ => True)
  | .zip, [.tup xs, .tup ys] => Q (List.zipWith (fun x y => .tup [x, y]) xs ys) (fun _ => True)
  | .zip, [.fl xs, .fl ys] => Q (List.zipWith (fun x y => .tup [x, y]) xs ys) (fun _ => True)
  | .enum, [.fl xs] => Q (enumD 0 xs) (fun _ => True)
  | .enum, [.tup xs] => Q (enumD 0 xs) (fun _ => True)
  | .enum, [.ref a] => match A a with | some (.lst xs) => Q (enumD 0 xs) (fun A' => A' a = some (.lst xs)) | _ => False
  | .ezip, [.tup xs, .tup ys] => Q (enumD 0 (List.zipWith (fun x y => .tup [x, y]) xs ys)) (fun _ => True)
  | .keys, [.ref a] => match A a with | some (.dkl kvs u) => Q (kvs.map fun kv => ofKey kv.1) (fun A' => A' a = some (.dkl kvs u)) | _ => False
  | .sgn, [.str z] => Q (z.cps.toList.map fun c => .str ⟨#[c]⟩) (fun _ => True)
  | .zipm, [.fl xs, .tup ys] => Q (List.zipWith (fun x y => .tup [x, y]) xs ys) (fun _ => True)
  | .rng3, [.int i, .int j, .int c] => ∃ n, RgC i j c n ∧ Q ((List.range n).map fun k => .int (i + (k : Nat) * c)) (fun _ => True)
  | _, _ => False

mutual
def gAsg : Tg → D → DSt → AH → (DSt → Prop) → Prop
  | .nm i, x, δ, _, Q => Q (δ.set i (some x))
  | .tp ts, x, δ, A, Q => match seqD A x with | some xs => gAsgs ts xs δ A Q | none => False
def gAsgs : List Tg → List D → DSt → AH → (DSt → Prop) → Prop
  | [], xs, δ, _, Q => xs = [] ∧ Q δ
  | t :: ts, xs, δ, A, Q => match xs with | x :: r => gAsg t x δ A fun δ' => gAsgs ts r δ' A Q | [] => False
end
def wipeD (δ : DSt) : List Nat → DSt
  | [] => δ
  | i :: r => (wipeD δ r).set i none
def dComp (tg : Tg) (g : AH → Prop) (t : WT) (e : WE) (δ : DSt) : List D → List D → AH → QE → Prop
  | [], acc, A, Q => g A ∧ newL A acc Q
  | x :: r, acc, A, Q => g A ∧ gAsg tg x δ A fun δ' => t δ' A (fun b A1 => if b = true then e δ' A1 (fun y A2 => dComp tg g t e δ r (acc ++ [y]) A2 Q) (fun _ _ => False) else dComp tg g t e δ r acc A1 Q) (fun _ _ => False)
/-- the same, where a turn may raise -/
def dCompX (tg : Tg) (g : AH → Prop) (t : WT) (e : WE) (δ : DSt) : List D → List D → AH → QE → XQ → Prop
  | [], acc, A, Q, _ => g A ∧ newL A acc Q
  | x :: r, acc, A, Q, E => g A ∧ gAsg tg x δ A fun δ' => t δ' A (fun b A1 => if b = true then e δ' A1 (fun y A2 => dCompX tg g t e δ r (acc ++ [y]) A2 Q E) E else dCompX tg g t e δ r acc A1 Q E) E
/-- a text or a number, as a text -/
def txt1 : D → Option Str | .str z => some z | .int i => some (toString i : String) | _ => none
def fmtOk : D → Prop | .int i => i.natAbs.log2 < 1920 | .str z => z.length ≤ sizeLine | _ => False
/-- a comparison's answer as a bool -/
def bTst (Q : Bool → AH → Prop) : QE := fun x A => match x with | .bl b => Q b A | _ => False

mutual
def wpE (c : CallT) (G : Gm) : IE → WE
  | .var i => fun δ A Q _ => match δ[i]? with | some (some d) => Q d A | _ => False
  | .cst d => fun _ A Q _ => Q d A
  | .tup es => fun δ A Q E => wpEs c G es δ A (fun ds A1 => ds.length ≤ sizeLine ∧ Q (.tup ds) A1) E
  | .lst es => fun δ A Q E => wpEs c G es δ A (fun ds A1 => ds.length ≤ sizeLine ∧ newL A1 ds Q) E
  | .bin o a b => fun δ A Q E => wpE c G a δ A (fun x A1 => wpE c G b δ A1 (fun y A2 => dBin o x y A2 Q) E) E
  | .neg a => fun δ A Q E => wpE c G a δ A (fun x A1 => match x with | .int i => Q (.int (-i)) A1 | _ => False) E
  | .cmp o a b => fun δ A Q E => wpE c G a δ A (fun x A1 => wpE c G b δ A1 (fun y A2 => dCmp o x y A2 Q) E) E
  | .chn o p a b d => fun δ A Q E => wpE c G a δ A (fun x A1 => wpE c G b δ A1 (fun y A2 => dCmp o x y A2 (bTst fun k A3 =>
      if k = true then wpE c G d δ A3 (fun z A4 => dCmp p y z A4 Q) E else Q (.bl false) A3)) E) E
  | .ch3 o p q a b d e => fun δ A Q E => wpE c G a δ A (fun x A1 => wpE c G b δ A1 (fun y A2 => dCmp o x y A2 (bTst fun k A3 =>
      if k = true then wpE c G d δ A3 (fun z A4 => dCmp p y z A4 (bTst fun l A5 => if l = true then wpE c G e δ A5 (fun u A6 => dCmp q z u A6 Q) E else Q (.bl false) A5)) E else Q (.bl false) A3)) E) E
  | .isn neg a => fun δ A Q E => wpE c G a δ A (fun x A1 => Q (.bl (if neg = true then !isNonD x else isNonD x)) A1) E
  | .isb neg a b => fun δ A Q E => wpE c G a δ A (fun x A1 => wpE c G b δ A1 (fun y A2 => match x, y with | .bl k, .bl l => Q (.bl (if neg = true then !decide (k = l) else decide (k = l))) A2 | _, _ => False) E) E
  | .notv a => fun δ A Q E => wpE c G a δ A (fun x A1 => dTru x A1 fun k A2 => Q (.bl (!k)) A2) E
  | .andv a b => fun δ A Q E => wpE c G a δ A (bTst fun k A1 => if k = true then wpE c G b δ A1 Q E else Q (.bl false) A1) E
  | .orv a b => fun δ A Q E => wpE c G a δ A (bTst fun k A1 => if k = true then Q (.bl true) A1 else wpE c G b δ A1 Q E) E
  | .ite t a b => fun δ A Q E => wpT c G t δ A (fun k A1 => if k = true then wpE c G a δ A1 Q E else wpE c G b δ A1 Q E) E
  | .call f es => fun δ A Q E => wpEs c G es δ A (fun ds A1 => c f ds A1 Q E) E
  | .make C es => fun δ A Q E => wpEs c G es δ A (fun ds A1 => match G.cl C with
      | some cd => ∀ x, A1 x = none → c cd.init (.ref x :: ds) (up A1 x (.ins C [])) (fun r A2 => (match r with | .non => True | _ => False) ∧ Q (.ref x) A2) E
      | none => False) E
  | .meth m o es => fun δ A Q E => wpE c G o δ A (fun x A1 => match x with
      | .ref a => match A1 a with
        | some (.ins C fs) => match G.cl C with
          | some cd => match cd.ms.lookup m with
            | some f => wpEs c G es δ A1 (fun ds A2 => c f (x :: ds) A2 Q E) E
            | none => False
          | none => False
        | _ => False
      | _ => False) E
  | .fld C i o => fun δ A Q E => wpE c G o δ A (fun x A1 => match x with
      | .ref a => match A1 a with
        | some (.ins C' fs) => C' = C ∧ (match fs[i]? with | some d => Q d A1 | none => False)
        | _ => False
      | _ => False) E
  | .bi b es => fun δ A Q E => wpEs c G es δ A (fun ds A1 => dBi b ds A1 Q) E
  | .isi k a => fun δ A Q E => wpE c G a δ A (fun x A1 => match isD k A1 x with | some b => Q (.bl b) A1 | none => False) E
  | .rgl t es => fun δ A Q E => wpEs c G es δ A (fun ds A1 => dRgl t ds A1 Q) E
  | .ix a i => fun δ A Q E => wpE c G a δ A (fun x A1 => wpE c G i δ A1 (fun y A2 => dIx x y A2 Q) E) E
  | .cut a lo hi => fun δ A Q E => wpE c G a δ A (fun x A1 => wpO c G lo δ A1 (fun l A2 => wpO c G hi δ A2 (fun h A3 => dCut x l h A3 Q) E) E) E
  | .rev a => fun δ A Q E => wpE c G a δ A (fun x A1 => dRev x A1 Q) E
  | .comp k es vs tg t e => fun δ A Q E => wpEs c G es δ A (fun ds A1 => dSrc k ds A1 fun xs g => xs.length ≤ sizeLine ∧ dComp tg g (wpT c G t) (wpE c G e) (wipeD δ vs) xs [] A1 Q) E
  | .bm m o es => fun δ A Q E => wpE c G o δ A (fun x A1 => isT (tyB m) A1 x ∧ wpEs c G es δ A1 (fun ds A2 => dBm m x ds A2 Q) E) E
  | .dic es => fun δ A Q E => wpEs c G es δ A (fun ds A1 => match kvs2 ds with | some kvs => kvs.length ≤ 15 ∧ newD A1 (mergeD [] kvs) Q | none => False) (fun _ _ => False)
  | .fstr es => fun δ A Q E => wpEs c G es δ A (fun ds A1 => (∀ d ∈ ds, fmtOk d) ∧ match alls txt1 ds with | some zs => (zs.foldl (· ++ ·) Str.empty).length ≤ sizeLine ∧ (zs.map (·.length)).sum ≤ sizeLine ∧ Q (.str (zs.foldl (· ++ ·) Str.empty)) A1 | none => False) E
  | .fz e => fun δ A Q E => wpE c G e δ A (fun x A1 => dFz x A1 Q) E
  | .lk e => fun δ A Q E => ∃ a kvs, A a = some (.dk kvs) ∧ ∀ u, wpE c G e δ (up A a (.dkl kvs u)) (fun y A2 => A2 a = some (.dkl kvs u) ∧ Q y (up A2 a (.dk kvs))) (fun _ _ => False)
  | .wk e => fun δ A Q E => wpE c G e δ A (fun x A1 => Q (match x with | .ptp xs => .tup xs | x => x) A1) E
  | .ptl e => fun δ A Q E => wpE c G e δ A (fun x A1 => match lstD A1 x with | some xs => Q (.ptp xs) A1 | none => False) E
  | .ptd es => fun δ A Q E => wpEs c G es δ A (fun ds A1 => ds.length ≤ sizeLine ∧ Q (.ptp ds) A1) E
  | .step a k => fun δ A Q E => wpE c G a δ A (fun x A1 => match x with | .tup xs => 1 < k ∧ Q (.tup (stepL k xs)) A1 | _ => False) E
  | .isx x a => fun δ A Q E => False
  | .compx k es vs tg t e => fun δ A Q E => wpEs c G es δ A (fun ds A1 => dSrc k ds A1 fun xs g => xs.length ≤ sizeLine ∧ dCompX tg g (wpT c G t) (wpE c G e) (wipeD δ vs) xs [] A1 Q E) E
  | .ixt a k => fun δ A Q E => wpE c G a δ A (fun x A1 => wpE c G k δ A1 (fun y A2 => match x, keyT y with
      | .ref p, some k => match A2 p with
        | some (.dt kvs) => match valT kvs k with | some v => Q v A2 | none => False
        | _ => False
      | _, _ => False) E) E
  | .tnin k a => fun δ A Q E => wpE c G k δ A (fun y A1 => wpE c G a δ A1 (fun x A2 => match x, keyT y with
      | .ref p, some k => match A2 p with
        | some (.dt kvs) => Q (.bl (!(valT kvs k).isSome)) A2
        | _ => False
      | _, _ => False) E) E
  | .cutk a m => fun δ A Q E => wpE c G a δ A (fun x A1 => match x with | .tup xs => m < xs.length ∧ Q (.tup (xs.take m)) A1 | _ => False) E
def wpEs (c : CallT) (G : Gm) : List IE → WA
  | [] => fun _ A Q _ => Q [] A
  | e :: es => fun δ A Q E => wpE c G e δ A (fun d A1 => wpEs c G es δ A1 (fun ds A2 => Q (d :: ds) A2) E) E
def wpO (c : CallT) (G : Gm) : Option IE → DSt → AH → (Option Int → AH → Prop) → XQ → Prop
  | none => fun _ A Q _ => Q none A
  | some e => fun δ A Q E => wpE c G e δ A (fun d A1 => match d with | .int i => Q (some i) A1 | _ => False) E
def wpT (c : CallT) (G : Gm) : IT → WT
  | .val e => fun δ A Q E => wpE c G e δ A (fun x A1 => dTru x A1 Q) E
  | .and a b => fun δ A Q E => wpT c G a δ A (fun k A1 => if k = true then wpT c G b δ A1 Q E else Q false A1) E
  | .or a b => fun δ A Q E => wpT c G a δ A (fun k A1 => if k = true then Q true A1 else wpT c G b δ A1 Q E) E
  | .not a => fun δ A Q E => wpT c G a δ A (fun k A1 => Q (!k) A1) E
  | .yes => fun _ A Q _ => Q true A
end

/-! ### statements -/
structure Pst where
  nx : DSt → AH → Prop
  rt : QE
  ct : DSt → AH → Prop
  ex : XP
abbrev WS := Pst → DSt → AH → Prop
def dFor (tg : Tg) (g : AH → Prop) (body : WS) : List D → WS
  | [], P, δ, A => g A ∧ P.nx δ A
  | x :: r, P, δ, A => g A ∧ gAsg tg x δ A fun δ' => body ⟨fun δ2 A2 => dFor tg g body r P δ2 A2, P.rt, fun δ2 A2 => dFor tg g body r P δ2 A2, P.ex⟩ δ' A
def dWhile (t : WT) (body : WS) : Nat → WS
  | 0, _, _, _ => False
  | n + 1, P, δ, A => t δ A (fun b A1 => if b = true then body ⟨fun δ2 A2 => dWhile t body n P δ2 A2, P.rt, fun δ2 A2 => dWhile t body n P δ2 A2, P.ex⟩ δ A1 else P.nx δ A1) (fun x A' => P.ex x δ A')
def setAll : List Nat → List D → DSt → DSt
  | i :: is, d :: ds, δ => setAll is ds (δ.set i (some d))
  | _, _, δ => δ
def putF' (fs : List D) (k : Nat) (v : D) : List D := if k < fs.length then fs.set k v else fs ++ [v]
mutual
def wpS (c : CallT) (G : Gm) : IS → WS
  | .set i e => fun P δ A => wpE c G e δ A (fun x A1 => P.nx (δ.set i (some x)) A1) (fun x A' => P.ex x δ A')
  | .tset tg e => fun P δ A => wpE c G e δ A (fun x A1 => gAsg tg x δ A1 fun δ' => P.nx δ' A1) (fun x A' => P.ex x δ A')
  | .par is es => fun P δ A => wpEs c G es δ A (fun ds A1 => ds.length = is.length ∧ P.nx (setAll is ds δ) A1) (fun x A' => P.ex x δ A')
  | .sub o i e => fun P δ A => wpE c G e δ A (fun v A1 => wpE c G o δ A1 (fun x A2 => wpE c G i δ A2 (fun y A3 => dSub x y v A3 fun A4 => P.nx δ A4) (fun x A' => P.ex x δ A')) (fun x A' => P.ex x δ A')) (fun x A' => P.ex x δ A')
  | .put C k o e => fun P δ A => wpE c G e δ A (fun v A1 => wpE c G o δ A1 (fun x A2 => match x with
      | .ref a => match A2 a with
        | some (.ins C' fs) => C' = C ∧ k ≤ fs.length ∧ P.nx δ (up A2 a (.ins C (putF' fs k v)))
        | _ => False
      | _ => False) (fun x A' => P.ex x δ A')) (fun x A' => P.ex x δ A')
  | .expr e => fun P δ A => wpE c G e δ A (fun _ A1 => P.nx δ A1) (fun x A' => P.ex x δ A')
  | .iff t a b => fun P δ A => wpT c G t δ A (fun k A1 => if k = true then wpSs c G a P δ A1 else wpSs c G b P δ A1) (fun x A' => P.ex x δ A')
  | .for k es tg body => fun P δ A => wpEs c G es δ A (fun ds A1 => dSrc k ds A1 fun xs g => dFor tg g (wpSs c G body) xs P δ A1) (fun x A' => P.ex x δ A')
  | .whil t body => fun P δ A => ∃ n, dWhile (wpT c G t) (wpSs c G body) n P δ A
  | .ret e => fun P δ A => wpE c G e δ A P.rt (fun x A' => P.ex x δ A')
  | .pass => fun P δ A => P.nx δ A
  | .cont => fun P δ A => P.ct δ A
  | .rais x => fun P δ A => P.ex x δ A
  | .tryx body xs suite => fun P δ A => wpSs c G body ⟨P.nx, P.rt, P.ct, fun x δ' A' => x ∈ xs ∧ wpSs c G suite ⟨P.nx, P.rt, P.ct, fun _ _ _ => False⟩ δ' A'⟩ δ A
  | .lks s => fun P δ A => ∃ a kvs, A a = some (.dk kvs) ∧ ∀ u, wpS c G s ⟨fun δ' A' => A' a = some (.dkl kvs u) ∧ P.nx δ' (up A' a (.dk kvs)), fun v A' => A' a = some (.dkl kvs u) ∧ P.rt v (up A' a (.dk kvs)), fun δ' A' => A' a = some (.dkl kvs u) ∧ P.ct δ' (up A' a (.dk kvs)), fun _ _ _ => False⟩ δ (up A a (.dkl kvs u))
  | .sub2 o i o2 i2 e => fun P δ A => wpE c G e δ A (fun v A1 => match v with
      | .tup [v1, v2] => wpE c G o δ A1 (fun x A2 => wpE c G i δ A2 (fun k A3 => dSub x k v1 A3 fun A4 =>
          wpE c G o2 δ A4 (fun y A5 => wpE c G i2 δ A5 (fun j A6 => dSub y j v2 A6 fun A7 => P.nx δ A7) (fun x A' => P.ex x δ A')) (fun x A' => P.ex x δ A')) (fun x A' => P.ex x δ A')) (fun x A' => P.ex x δ A')
      | _ => False) (fun x A' => P.ex x δ A')
  | .subt o k e => fun P δ A => wpE c G e δ A (fun v A1 => wpE c G o δ A1 (fun x A2 => wpE c G k δ A2 (fun y A3 => match x, keyT y with
      | .ref p, some k => match A3 p with
        | some (.dt kvs) => kvs.length < sizeLine ∧ P.nx δ (up A3 p (.dt (putT kvs k v)))
        | _ => False
      | _, _ => False) (fun x A' => P.ex x δ A')) (fun x A' => P.ex x δ A')) (fun x A' => P.ex x δ A')
  | .tryk body xs o j => fun P δ A => wpSs c G body ⟨P.nx, P.rt, P.ct, fun x δ' A' => match xs.lookup x with
      | some d => (match o with | none => P.rt d A' | some i => P.nx ((δ'.set i (some d)).set j none) A')
      | none => False⟩ δ A
def wpSs (c : CallT) (G : Gm) : List IS → WS
  | [] => fun P δ A => P.nx δ A
  | s :: ss => fun P δ A => wpS c G s ⟨fun δ' A' => wpSs c G ss P δ' A', P.rt, P.ct, P.ex⟩ δ A
end
/-- a def's slots at its start -/
def startD (n : Nat) (ds : List D) : DSt := ds.map some ++ List.replicate (n - ds.length) none
/-- a call, of at most so many calls in one another; behind it something may be forgotten -/
def callN (G : Gm) : Nat → CallT
  | 0 => fun _ _ _ _ _ => False
  | n + 1 => fun f ds A Q E => match G.fn f with
    | some fd => ds.length = fd.np ∧ wpSs (callN G n) G fd.body ⟨fun _ A' => ∃ B, Sub B A' ∧ Q .non B, fun v A' => ∃ B, Sub B A' ∧ Q v B, fun _ _ => False, fun x _ A' => ∃ B, Sub B A' ∧ E x B⟩ (startD fd.ns ds) A
    | none => False
end DL

set_option Elab.async false
set_option linter.all false
set_option maxRecDepth 100000
/-! the judgements of the data layer, and the rules of expressions -/
namespace DL
open PySem PySem.Spec PyProof.Rows L2

/-! ### lifts -/
def LE (L : Lk) (W : WX) (w : WE) : TE := fun σ H Q => ∃ (N : Addr → Prop), ∃ δ A Qd Ed, RS L.K A N H δ σ ∧ RA L A N H ∧ w δ A Qd Ed ∧
  (∀ d A' v H', RV L.K A' N H' d v → RA L A' N H' → Ext A H A' H' → Qd d A' → Q v H') ∧ ∀ x A' H', RA L A' N H' → Ext A H A' H' → Ed x A' → W (L.XV x) none σ H'
def LT (L : Lk) (W : WX) (w : WT) : TT := fun σ H Q => ∃ (N : Addr → Prop), ∃ δ A Qd Ed, RS L.K A N H δ σ ∧ RA L A N H ∧ w δ A Qd Ed ∧
  (∀ b A' H', RA L A' N H' → Ext A H A' H' → Qd b A' → Q b H') ∧ ∀ x A' H', RA L A' N H' → Ext A H A' H' → Ed x A' → W (L.XV x) none σ H'
def LAs (L : Lk) (W : WX) (w : WA) : TA := fun σ H Q => ∃ (N : Addr → Prop), ∃ δ A Qd Ed, RS L.K A N H δ σ ∧ RA L A N H ∧ w δ A Qd Ed ∧
  (∀ ds A' vs H', RVs L.K A' N H' ds vs → RA L A' N H' → Ext A H A' H' → Qd ds A' → Q vs H') ∧ ∀ x A' H', RA L A' N H' → Ext A H A' H' → Ed x A' → W (L.XV x) none σ H'
/-- what a call of the f-th def promises -/
def spD (L : Lk) (c : CallT) (f : Nat) : Sp := fun vs H Q E => ∃ (N : Addr → Prop), ∃ ds A Qd Ed, RVs L.K A N H ds vs ∧ RA L A N H ∧ c f ds A Qd Ed ∧
  (∀ d A' v H', RV L.K A' N H' d v → RA L A' N H' → Ext A H A' H' → Qd d A' → Q v H') ∧ ∀ x A' H', RA L A' N H' → Ext A H A' H' → Ed x A' → E (L.XV x) none H'
/-- the defs keep their promises -/
def Fns (L : Lk) (G : Gm) (n : Nat) (P : Program) (w : World) (K : PySem.W.Frag) (mg : Str → Option Value) (base : Heap) : Prop :=
  ∀ f fd, G.fn f = some fd → ∃ fdt ps, FnOk P w K mg base (L2.CX P w) (2 * n) (L.FA f) fdt ps (spD L (callN G n) f) ∧ Binds K fdt ps [] ∧ PySem.W.keepIn K (.ref (L.FA f)) = true
/-- what of the text a class must have -/
structure ClOk (L : Lk) (G : Gm) (C : Nat) (cd : ClD) : Prop where
  cls : Cls L.K (L.CA C)
  nof : ∀ f ∈ L.FN C, NoAttr L.K (L.CA C) f
  nod : (L.FN C).Nodup
  met : ∀ m f, cd.ms.lookup m = some f → Meth L.K (L.CA C) (L.MN m) (L.FA f) ∧ L.MN m ∉ L.FN C ∧ ∃ fd, G.fn f = some fd
  mak : Mk L.K (L.CA C) (L.FA cd.init) ∧ ∃ fd, G.fn cd.init = some fd
  few : (L.FN C).length < 1000
structure Cn (L : Lk) (G : Gm) (n : Nat) (X : Cx) : Prop where
  K : X.K = L.K
  calm : X.calm = true
  room : Room (2 * n + 1) X.A
  nd : X.N.Nodup
  fns : Fns L G n X.prog X.w X.K X.mg X.base
  cls : ∀ C cd, G.cl C = some cd → ClOk L G C cd

section
variable {L : Lk} {W : WX} {w : WE} {wt : WT} {wa : WA} {δ : DSt} {A : AH} {N : Addr → Prop} {Ed : XQ} {σ : L2.St} {H : Hp}
theorem LE.use {Qd : QE} {Q : VK} (rs : RS L.K A N H δ σ) (ra : RA L A N H) (h : w δ A Qd Ed) (hq : ∀ d A' v H', RV L.K A' N H' d v → RA L A' N H' → Ext A H A' H' → RS L.K A' N H' δ σ → Qd d A' → Q v H')
    (hx : ∀ x A' H', RA L A' N H' → Ext A H A' H' → Ed x A' → W (L.XV x) none σ H') : LE L W w σ H Q :=
  ⟨N, δ, A, Qd, Ed, rs, ra, h, fun d A' v H' r1 r2 x q => hq d A' v H' r1 r2 x (rs.stay (x.stay ra)) q, hx⟩
theorem LT.use {Qd : Bool → AH → Prop} {Q : Bool → Hp → Prop} (rs : RS L.K A N H δ σ) (ra : RA L A N H) (h : wt δ A Qd Ed) (hq : ∀ b A' H', RA L A' N H' → Ext A H A' H' → RS L.K A' N H' δ σ → Qd b A' → Q b H')
    (hx : ∀ x A' H', RA L A' N H' → Ext A H A' H' → Ed x A' → W (L.XV x) none σ H') : LT L W wt σ H Q :=
  ⟨N, δ, A, Qd, Ed, rs, ra, h, fun b A' H' r2 x q => hq b A' H' r2 x (rs.stay (x.stay ra)) q, hx⟩
theorem LAs.use {Qd : List D → AH → Prop} {Q : List V → Hp → Prop} (rs : RS L.K A N H δ σ) (ra : RA L A N H) (h : wa δ A Qd Ed) (hq : ∀ ds A' vs H', RVs L.K A' N H' ds vs → RA L A' N H' → Ext A H A' H' → RS L.K A' N H' δ σ → Qd ds A' → Q vs H')
    (hx : ∀ x A' H', RA L A' N H' → Ext A H A' H' → Ed x A' → W (L.XV x) none σ H') : LAs L W wa σ H Q :=
  ⟨N, δ, A, Qd, Ed, rs, ra, h, fun d A' v H' r1 r2 x q => hq d A' v H' r1 r2 x (rs.stay (x.stay ra)) q, hx⟩
end
/-- an exception's wish behind a step -/
theorem XW.ext {L : Lk} {W : WX} {N : Addr → Prop} {A A1 : AH} {H H1 : Hp} {Ed : XQ} {σ : L2.St} (hx : ∀ x A' H', RA L A' N H' → Ext A H A' H' → Ed x A' → W (L.XV x) none σ H') (e : Ext A H A1 H1) :
    ∀ x A' H', RA L A' N H' → Ext A1 H1 A' H' → Ed x A' → W (L.XV x) none σ H' := fun x A' H' r e' q => hx x A' H' r (e.trans e') q

theorem pe_imp {X : Cx} {e : Expr} {t t' : TE} (h : PE X e t) (k : ∀ σ H Q, t' σ H Q → t σ H Q) : PE X e t' := ⟨fun pins s σ H Q I q => h.run pins s σ H Q I (k σ H Q q)⟩
theorem pt_imp {X : Cx} {e : Expr} {t t' : TT} (h : PT X e t) (k : ∀ σ H Q, t' σ H Q → t σ H Q) : PT X e t' := ⟨fun pins s σ H Q I q => h.run pins s σ H Q I (k σ H Q q)⟩
theorem pw_imp {X : Cx} {e : Expr} {t t' : TT} (h : PW X e t) (k : ∀ σ H Q, t' σ H Q → t σ H Q) : PW X e t' := ⟨fun wh pins s σ H Q I q => h.run wh pins s σ H Q I (k σ H Q q)⟩
theorem pa_imp {X : Cx} {e : List Expr} {t t' : TA} (h : PA X e t) (k : ∀ σ H Q, t' σ H Q → t σ H Q) : PA X e t' := ⟨fun pos pins s σ H Q I q => h.run pos pins s σ H Q I (k σ H Q q)⟩
theorem ps_imp {X : Cx} {e : Stmt} {t t' : TS} (h : PS X e t) (k : ∀ D σ H, t' D σ H → t D σ H) : PS X e t' := ⟨fun pins s σ H D I q => h.run pins s σ H D I (k D σ H q)⟩
theorem pss_imp {X : Cx} {e : List Stmt} {t t' : TS} (h : PSs X e t) (k : ∀ D σ H, t' D σ H → t D σ H) : PSs X e t' := ⟨fun pins s σ H D I q => h.run pins s σ H D I (k D σ H q)⟩

/-! ### judgements -/
def DE (L : Lk) (G : Gm) (n : Nat) (X : Cx) (e : Expr) (i : IE) : Prop := Cn L G n X → ∀ W, Takes X W → PE X e (LE L W (wpE (callN G n) G i))
def DT (L : Lk) (G : Gm) (n : Nat) (X : Cx) (e : Expr) (i : IT) : Prop := Cn L G n X → ∀ W, Takes X W → PT X e (LT L W (wpT (callN G n) G i))
def DW (L : Lk) (G : Gm) (n : Nat) (X : Cx) (e : Expr) (i : IT) : Prop := Cn L G n X → ∀ W, Takes X W → PW X e (LT L W (wpT (callN G n) G i))
def DA (L : Lk) (G : Gm) (n : Nat) (X : Cx) (e : List Expr) (i : List IE) : Prop := Cn L G n X → ∀ W, Takes X W → PA X e (LAs L W (wpEs (callN G n) G i))

/-! ### values -/
section
variable {K : PySem.W.Frag} {A : AH} {N : Addr → Prop} {H : Hp} {v : V}
theorem rv_non : RV K A N H .non v ↔ v = .non := by unfold RV; exact Iff.rfl
theorem rv_bl {b : Bool} : RV K A N H (.bl b) v ↔ v = .bl b := by unfold RV; exact Iff.rfl
theorem rv_int {b : Int} : RV K A N H (.int b) v ↔ v = .int b := by unfold RV; exact Iff.rfl
theorem rv_str {b : Str} : RV K A N H (.str b) v ↔ v = .str b := by unfold RV; exact Iff.rfl
theorem rv_ref {b : Addr} : RV K A N H (.ref b) v ↔ v = .ref b := by unfold RV; exact Iff.rfl
theorem rv_tup {ds : List D} : RV K A N H (.tup ds) v ↔ ∃ a vs, v = .ref a ∧ SqT K H a vs ∧ RVs K A N H ds vs := by unfold RV; exact Iff.rfl
theorem rv_fl {ds : List D} : RV K A N H (.fl ds) v ↔ ∃ a vs, v = .ref a ∧ RdL A N H a vs ∧ RVs K A N H ds vs := by unfold RV; exact Iff.rfl
theorem rv_ptp {ds : List D} : RV K A N H (.ptp ds) v ↔ ∃ a o vs, v = .ref a ∧ H a = some (.frz o (.tup vs)) ∧ o.dict = none ∧ RVs K A N H ds vs := by unfold RV; exact Iff.rfl
theorem rv_rod {ks : List Key} {ds : List D} : RV K A N H (.rod ks ds) v ↔ ∃ a ws, v = .ref a ∧ RdD A N H a ws ∧ ks = ws.map (·.1) ∧ RVs K A N H ds (ws.map (·.2)) := by unfold RV; exact Iff.rfl
theorem rv_rol {ds : List D} : RV K A N H (.rol ds) v ↔ ∃ a vs, v = .ref a ∧ SqR K A N H a vs ∧ RVs K A N H ds vs := by unfold RV; exact Iff.rfl
end
section
variable {L : Lk} {A : AH} {N : Addr → Prop} {H : Hp} {Qd : QE} {Q : VK} {d : D} {v : V} {a : Addr} {ds : List D} {vs : List V}
abbrev Kt (L : Lk) (A : AH) (N : Addr → Prop) (H : Hp) (Qd : QE) (Q : VK) : Prop := ∀ d A' v H', RV L.K A' N H' d v → RA L A' N H' → Ext A H A' H' → Qd d A' → Q v H'
theorem Kt.here (k : Kt L A N H Qd Q) (ra : RA L A N H) (r : RV L.K A N H d v) (q : Qd d A) : Q v H := k d A v H r ra (Ext.refl _ _) q
theorem Kt.int {i : Int} (k : Kt L A N H Qd Q) (ra : RA L A N H) (q : Qd (.int i) A) : Q (.int i) H := k.here ra (rv_int.mpr rfl) q
theorem Kt.bl {i : Bool} (k : Kt L A N H Qd Q) (ra : RA L A N H) (q : Qd (.bl i) A) : Q (.bl i) H := k.here ra (rv_bl.mpr rfl) q
theorem Kt.str {i : Str} (k : Kt L A N H Qd Q) (ra : RA L A N H) (q : Qd (.str i) A) : Q (.str i) H := k.here ra (rv_str.mpr rfl) q
theorem Kt.non (k : Kt L A N H Qd Q) (ra : RA L A N H) (q : Qd .non A) : Q .non H := k.here ra (rv_non.mpr rfl) q
theorem Kt.tup (k : Kt L A N H Qd Q) (ra : RA L A N H) (r : RVs L.K A N H ds vs) (q : Qd (.tup ds) A) : ∀ p, H p = none → Q (.ref p) (upd H p (.tup vs)) := fun p np =>
  k _ A _ _ (rv_tup.mpr ⟨p, vs, rfl, SqT.of upd_same, RVs.stay ((Ext.tupNew ra np).stay ra) _ _ r⟩) (ra.tupNew np) (Ext.tupNew ra np) q
theorem Kt.lst (k : Kt L A N H Qd Q) (ra : RA L A N H) (r : RVs L.K A N H ds vs) (q : newL A ds Qd) : ∀ p, H p = none → Q (.ref p) (upd H p (.lst vs)) := fun p np =>
  k _ _ _ _ (rv_ref.mpr rfl) (ra.new np (o := .lst ds) ⟨vs, upd_same, RVs.stay ((Ext.new ra np).stay ra) _ _ r⟩) (Ext.new ra np) (q p (ra.non np))
/-- a list written -/
theorem RA.lput {o : AO} (ra : RA L A N H) (e : A a = some o) (r : RVs L.K A N H ds vs) : RA L (up A a (.lst ds)) N (upd H a (.lst vs)) :=
  ra.put e ⟨vs, upd_same, RVs.stay ((Ext.put e).stay ra) _ _ r⟩
theorem Kt.lput {xs : List D} (k : Kt L A N H Qd Q) (ra : RA L A N H) (e : A a = some (.lst xs)) (r : RVs L.K A N H ds vs) (rd : RV L.K A N H d v) (q : Qd d (up A a (.lst ds))) : Q v (upd H a (.lst vs)) :=
  k _ _ _ _ (RV.stay ((Ext.put e).stay ra) _ _ rd) (ra.lput e r) (Ext.put e) q
/-- a thing to be walked -/
theorem seqD_rv (h : seqD A d = some ds) (ra : RA L A N H) (r : RV L.K A N H d v) : ∃ a vs, v = .ref a ∧ (SqL L.K H a vs ∨ SqT L.K H a vs) ∧ RVs L.K A N H ds vs := by
  cases d with
  | tup xs => cases h; obtain ⟨a, vs, e, h1, h2⟩ := rv_tup.mp r; exact ⟨a, vs, e, .inr h1, h2⟩
  | rol xs => cases h; obtain ⟨a, vs, e, h1, h2⟩ := rv_rol.mp r; exact ⟨a, vs, e, .inl h1.seq, h2⟩
  | fl xs => cases h; obtain ⟨a, vs, e, h1, h2⟩ := rv_fl.mp r; exact ⟨a, vs, e, .inl (.inl h1.1), h2⟩
  | ptp xs => cases h; obtain ⟨a, o, vs, e, h1, h2, h3⟩ := rv_ptp.mp r; exact ⟨a, vs, e, .inr (.inl (.inr ⟨o, h1⟩)), h3⟩
  | rod _ _ => cases h
  | ref b =>
    cases q : A b with
    | none => simp [seqD, q] at h
    | some o =>
      cases o with
      | lst xs =>
        simp only [seqD, q] at h
        cases h
        obtain ⟨vs, h1, h2⟩ := ra b _ q
        exact ⟨b, vs, rv_ref.mp r, .inl (SqL.of h1), h2⟩
      | dk _ => simp [seqD, q] at h
      | dkl _ _ => simp [seqD, q] at h
      | ins _ _ => simp [seqD, q] at h
      | dt _ => simp [seqD, q] at h
  | non => cases h
  | bl _ => cases h
  | int _ => cases h
  | str _ => cases h
theorem flD_rv (h : flD A d = some ds) (ra : RA L A N H) (r : RV L.K A N H d v) : ∃ a vs, v = .ref a ∧ Rd H a (.lst vs) ∧ RVs L.K A N H ds vs := by
  cases d with
  | fl xs => cases h; obtain ⟨a, vs, e, h1, h2⟩ := rv_fl.mp r; exact ⟨a, vs, e, h1.1, h2⟩
  | ref b =>
    cases q : A b with
    | none => simp [flD, q] at h
    | some o =>
      cases o <;> simp [flD, q] at h
      subst h
      obtain ⟨vs, h1, h2⟩ := ra b _ q
      exact ⟨b, vs, rv_ref.mp r, .inl h1, h2⟩
  | _ => cases h
theorem lstD_rv (h : lstD A d = some ds) (ra : RA L A N H) (r : RV L.K A N H d v) : ∃ a vs, v = .ref a ∧ SqL L.K H a vs ∧ RVs L.K A N H ds vs := by
  cases d with
  | fl xs => cases h; obtain ⟨a, vs, e, h1, h2⟩ := rv_fl.mp r; exact ⟨a, vs, e, .inl h1.1, h2⟩
  | rol xs => cases h; obtain ⟨a, vs, e, h1, h2⟩ := rv_rol.mp r; exact ⟨a, vs, e, h1.seq, h2⟩
  | ref b =>
    cases q : A b with
    | none => simp [lstD, q] at h
    | some o =>
      cases o <;> simp [lstD, q] at h
      subst h
      obtain ⟨vs, h1, h2⟩ := ra b _ q
      exact ⟨b, vs, rv_ref.mp r, SqL.of h1, h2⟩
  | _ => cases h
theorem dicD_rv {kvs : List (Key × D)} (h : dicD A d = some kvs) (ra : RA L A N H) (r : RV L.K A N H d v) : ∃ a ws, v = .ref a ∧ Rd H a (.dK ws) ∧ RKs L.K A N H kvs ws := by
  cases d with
  | rod ks xs =>
    cases h
    obtain ⟨a, ws, e, h1, h2, h3⟩ := rv_rod.mp r
    have hl : ks.length = xs.length := by rw [h3.length, h2, List.length_map, List.length_map]
    refine ⟨a, ws, e, h1.1, ?_, ?_⟩
    · rw [List.map_fst_zip (by omega)]; exact h2
    · rw [List.map_snd_zip (by omega)]; exact h3
  | ref b =>
    cases q : A b with
    | none => simp [dicD, q] at h
    | some o =>
      cases o <;> simp [dicD, q] at h
      · subst h
        obtain ⟨vs, h1, h2⟩ := ra b _ q
        exact ⟨b, vs, rv_ref.mp r, .inl h1, h2⟩
      · subst h
        obtain ⟨h1, o, vs, rfl, h2⟩ := ra b _ q
        exact ⟨b, vs, rv_ref.mp r, .inr ⟨o, h1⟩, h2⟩
  | _ => cases h
/-- tables: what stands at a key -/
theorem RKs.nil : RKs L.K A N H [] [] := ⟨rfl, .nil⟩
theorem RKs.cons {p : Key × D} {q : Key × V} {kvs : List (Key × D)} {ws : List (Key × V)} (e : p.1 = q.1) (h : RV L.K A N H p.2 q.2) (t : RKs L.K A N H kvs ws) : RKs L.K A N H (p :: kvs) (q :: ws) :=
  ⟨by rw [List.map_cons, List.map_cons, e, t.1], .cons h t.2⟩
theorem RKs.cons' {p : Key × D} {kvs : List (Key × D)} {ws : List (Key × V)} (h : RKs L.K A N H (p :: kvs) ws) : ∃ q r, ws = q :: r ∧ p.1 = q.1 ∧ RV L.K A N H p.2 q.2 ∧ RKs L.K A N H kvs r := by
  obtain ⟨h1, h2⟩ := h
  cases ws with
  | nil => cases h1
  | cons q r =>
    rw [List.map_cons, List.map_cons] at h1 h2
    obtain ⟨v, t, e, h3, h4⟩ := h2.cons'
    cases e
    injection h1 with h5 h6
    exact ⟨q, r, rfl, h5, h3, h6, h4⟩
theorem RKs.nil' {ws : List (Key × V)} (h : RKs L.K A N H [] ws) : ws = [] := by
  cases ws with
  | nil => rfl
  | cons q r => cases h.1
theorem RKs.len {kvs : List (Key × D)} {ws : List (Key × V)} (h : RKs L.K A N H kvs ws) : kvs.length = ws.length := by
  have := congrArg List.length h.1
  rwa [List.length_map, List.length_map] at this
theorem RKs.val (k : Key) : ∀ {kvs : List (Key × D)} {ws : List (Key × V)}, RKs L.K A N H kvs ws → match valD kvs k, valV ws k with | some d, some v => RV L.K A N H d v | none, none => True | _, _ => False
  | [], ws, h => by rw [h.nil']; exact True.intro
  | p :: kvs, ws, h => by
    obtain ⟨q, r, rfl, e, h1, h2⟩ := h.cons'
    have ih := RKs.val k h2
    by_cases z : p.1 = k
    · have z' : q.1 = k := by rw [← e]; exact z
      rw [valV_pos z', show valD (p :: kvs) k = some p.2 by simp [valD, List.find?_cons, z]]
      exact h1
    · have z' : ¬ q.1 = k := by rw [← e]; exact z
      rw [valV_neg z', show valD (p :: kvs) k = valD kvs k by simp [valD, List.find?_cons, z]]
      exact ih
theorem RKs.any (k : Key) : ∀ {kvs : List (Key × D)} {ws : List (Key × V)}, RKs L.K A N H kvs ws → (kvs.any fun kv => decide (kv.1 = k)) = ws.any fun kv => decide (kv.1 = k)
  | [], ws, h => by rw [h.nil']; rfl
  | p :: kvs, ws, h => by
    obtain ⟨q, r, rfl, e, h1, h2⟩ := h.cons'
    rw [List.any_cons, List.any_cons, RKs.any k h2, e]
theorem RKs.append : ∀ {kvs mvs : List (Key × D)} {ws us : List (Key × V)}, RKs L.K A N H kvs ws → RKs L.K A N H mvs us → RKs L.K A N H (kvs ++ mvs) (ws ++ us)
  | [], _, ws, _, h, t => by rw [h.nil']; exact t
  | p :: kvs, _, ws, _, h, t => by
    obtain ⟨q, r, rfl, e, h1, h2⟩ := h.cons'
    exact .cons e h1 (RKs.append h2 t)
theorem RKs.repl {d : D} {v : V} (k : Key) (rd : RV L.K A N H d v) : ∀ {kvs : List (Key × D)} {ws : List (Key × V)}, RKs L.K A N H kvs ws → RKs L.K A N H (kvs.map fun kv => if kv.1 = k then (kv.1, d) else kv) (ws.map fun kv => if kv.1 = k then (kv.1, v) else kv)
  | [], ws, h => by rw [h.nil']; exact .nil
  | p :: kvs, ws, h => by
    obtain ⟨q, r, rfl, e, h1, h2⟩ := h.cons'
    rw [List.map_cons, List.map_cons]
    refine .cons ?_ ?_ (RKs.repl k rd h2)
    · by_cases z : p.1 = k
      · rw [if_pos z, if_pos (by rw [← e]; exact z)]; exact e
      · rw [if_neg z, if_neg (by rw [← e]; exact z)]; exact e
    · by_cases z : p.1 = k
      · rw [if_pos z, if_pos (by rw [← e]; exact z)]; exact rd
      · rw [if_neg z, if_neg (by rw [← e]; exact z)]; exact h1
theorem RKs.put {d : D} {v : V} (k : Key) (rd : RV L.K A N H d v) {kvs : List (Key × D)} {ws : List (Key × V)} (h : RKs L.K A N H kvs ws) : RKs L.K A N H (putD kvs k d) (putK ws k v) := by
  unfold putD putK
  rw [h.any k]
  split
  · exact RKs.repl k rd h
  · exact h.append (.cons rfl rd .nil)
theorem RKs.drop (k : Key) : ∀ {kvs : List (Key × D)} {ws : List (Key × V)}, RKs L.K A N H kvs ws → RKs L.K A N H (dropD kvs k) (dropK ws k)
  | [], ws, h => by rw [h.nil']; exact .nil
  | p :: kvs, ws, h => by
    obtain ⟨q, r, rfl, e, h1, h2⟩ := h.cons'
    have ih := RKs.drop k h2
    unfold dropD dropK at *
    rw [List.filter_cons, List.filter_cons, ← e]
    split
    · exact .cons e h1 ih
    · exact ih
theorem RKs.merge : ∀ {more : List (Key × D)} {us : List (Key × V)} {kvs : List (Key × D)} {ws : List (Key × V)}, RKs L.K A N H more us → RKs L.K A N H kvs ws → RKs L.K A N H (mergeD kvs more) (mergeK ws us)
  | [], us, _, _, h, t => by rw [h.nil']; exact t
  | p :: more, us, kvs, ws, h, t => by
    obtain ⟨q, r, rfl, e, h1, h2⟩ := h.cons'
    show RKs L.K A N H (mergeD (putD kvs p.1 p.2) more) (mergeK (putK ws q.1 q.2) r)
    rw [← e]
    exact RKs.merge h2 (t.put p.1 h1)
theorem keyD_rv {d : D} {k : Key} {v : V} (h : keyD d = some k) (r : RV L.K A N H d v) : v = kV k := by
  cases d with
  | int i => cases h; exact rv_int.mp r
  | str x => cases h; exact rv_str.mp r
  | _ => cases h
theorem ofKey_rv (k : Key) : RV L.K A N H (ofKey k) (kV k) := by
  cases k with
  | inl i => exact rv_int.mpr rfl
  | inr x => exact rv_str.mpr rfl
theorem alls_int {xs : List D} {ns : List Int} (h : alls int1 xs = some ns) : xs = ns.map .int := by
  induction xs generalizing ns with
  | nil => cases h; rfl
  | cons x r ih =>
    unfold alls at h
    split at h
    · next y ys e1 e2 =>
      cases h
      rw [ih e2]
      cases x <;> simp [int1] at e1
      rw [e1]; rfl
    · cases h
theorem alls_bl {xs : List D} {ns : List Bool} (h : alls bl1 xs = some ns) : xs = ns.map .bl := by
  induction xs generalizing ns with
  | nil => cases h; rfl
  | cons x r ih =>
    unfold alls at h
    split at h
    · next y ys e1 e2 =>
      cases h
      rw [ih e2]
      cases x <;> simp [bl1] at e1
      rw [e1]; rfl
    · cases h
theorem pr1_some {x : D} {p : Int × Int} (h : pr1 x = some p) : x = prD p := by
  unfold pr1 at h
  split at h
  · cases h; rfl
  · cases h
theorem alls_pr {xs : List D} {ns : List (Int × Int)} (h : alls pr1 xs = some ns) : xs = ns.map prD := by
  induction xs generalizing ns with
  | nil => cases h; rfl
  | cons x r ih =>
    unfold alls at h
    split at h
    · next y ys e1 e2 =>
      cases h
      rw [ih e2, pr1_some e1]; rfl
    · cases h
end

/-! ### operators -/
/-- a two-place reading by values follows from the one over data -/
def DOp (L : Lk) (r : R2) (rd : D → D → AH → QE → Prop) : Prop := ∀ x y v u A N H Q Qd, RV L.K A N H x v → RV L.K A N H y u → RA L A N H → rd x y A Qd → Kt L A N H Qd Q → r v u H Q
section
variable {L : Lk} {G : Gm} {n : Nat} {X : Cx} {a b c : Expr} {ia ib ic : IE} {pos : Pos}
theorem de_bin {op : Operator} {o : BO} {r : R2} (ho : OpR X (binaryOp op) r) (hr : X.K = L.K → DOp L r (dBin o)) (ha : DE L G n X a ia) (hb : DE L G n X b ib) : DE L G n X (.BinOp a op b pos) (.bin o ia ib) := fun C W tk =>
  pe_imp (pe_op ho (ha C W tk) (hb C W tk)) fun σ H Q ⟨N, δ, A, Qd, Ed, rs, ra, h, hq, hx⟩ =>
    LE.use rs ra h (fun x A1 v1 H1 rv1 ra1 ex1 rs1 q1 => LE.use rs1 ra1 q1 (fun y A2 v2 H2 rv2 ra2 ex2 rs2 q2 =>
      hr C.K x y v1 v2 A2 N H2 Q Qd (RV.stay (ex2.stay ra1) _ _ rv1) rv2 ra2 q2 fun d A' v' H' r1 r2 e q => hq d A' v' H' r1 r2 ((ex1.trans ex2).trans e) q) (XW.ext hx ex1)) hx
theorem de_cmp {op : CmpOp} {o : CO} {r : R2} (ho : OpR X (compareOp op) r) (hr : X.K = L.K → DOp L r (dCmp o)) (hm : behindInMarks op b = false) (ha : DE L G n X a ia) (hb : DE L G n X b ib) : DE L G n X (.Compare a [op] [b] pos) (.cmp o ia ib) := fun C W tk =>
  pe_imp (pe_cmpR ho (ha C W tk) (hb C W tk) hm) fun σ H Q ⟨N, δ, A, Qd, Ed, rs, ra, h, hq, hx⟩ =>
    LE.use rs ra h (fun x A1 v1 H1 rv1 ra1 ex1 rs1 q1 => LE.use rs1 ra1 q1 (fun y A2 v2 H2 rv2 ra2 ex2 rs2 q2 =>
      hr C.K x y v1 v2 A2 N H2 Q Qd (RV.stay (ex2.stay ra1) _ _ rv1) rv2 ra2 q2 fun d A' v' H' r1 r2 e q => hq d A' v' H' r1 r2 ((ex1.trans ex2).trans e) q) (XW.ext hx ex1)) hx
end
theorem Rd.lstM {X : Cx} {pins : List (Addr × Obj)} {σ : L2.St} {H : Hp} {s : Shared} {l : Addr} {xs : List V} (I : Inv X pins σ H s) (hH : Rd H l (.lst xs)) : xs.length ≤ sizeLine ∧ ∃ (its : List Value) (n : Nat), Vals xs its ∧ xs.length = its.length ∧ s.heap.get? l = some { cls := .type "list", data := .seq its.toArray n } := by
  obtain ⟨z, its, n, r, e⟩ := hH.ok I.hok
  exact ⟨z, its, n, r, r.length, e⟩
def rCatR : R2 := fun x y H Q => ∃ l b xs zs, x = .ref l ∧ y = .ref b ∧ Rd H l (.lst xs) ∧ Rd H b (.lst zs) ∧ xs.length + zs.length ≤ sizeLine ∧ ∀ p, H p = none → Q (.ref p) (upd H p (.lst (xs ++ zs)))
theorem op_catR {X : Cx} : OpR X (binaryOp .Add) rCatR := by
  intro pins s σ H x y v u Q I rx ry h
  obtain ⟨l, b, xs, zs, rfl, rfl, hH, hB, hz, q⟩ := h
  cases rx
  cases ry
  obtain ⟨z, its, n, r, hl, e⟩ := Rd.lstM I hH
  obtain ⟨z2, its2, n2, r2, hl2, e2⟩ := Rd.lstM I hB
  refine PySem.P.add_list e e2 ?_ (by rw [List.size_toArray, List.size_toArray]; omega)
  have ea : its.toArray ++ its2.toArray = (its ++ its2).toArray := by simp
  rw [ea]
  exact ⟨.ref _, _, I.lnew (t' := s.toks) (r.append r2) (by rw [List.length_append]; omega), rfl, q _ I.fresh⟩
def rAdd (K : PySem.W.Frag) : R2 := fun x y H Q => rI0 (fun i j => .int (i + j)) x y H Q ∨ rCatA K x y H Q ∨ rCatR x y H Q ∨ ∃ i j, x = .str i ∧ y = .str j ∧ i.length + j.length ≤ sizeLine ∧ Q (.str (i ++ j)) H
theorem op_addD {X : Cx} : OpR X (binaryOp .Add) (rAdd X.K) := op_add.or (op_catA.or (op_catR.or op_add_str))
theorem dop_add {L : Lk} : DOp L (rAdd L.K) (dBin .add) := by
  intro x y v u A N H Q Qd rx ry ra h k
  cases x with
  | int i =>
    cases y with
    | int j => exact .inl ⟨i, j, rv_int.mp rx, rv_int.mp ry, k.int ra h⟩
    | _ => exact (show False from h).elim
  | str i =>
    cases y with
    | str j => exact .inr (.inr (.inr ⟨i, j, rv_str.mp rx, rv_str.mp ry, h.1, k.str ra h.2⟩))
    | _ => exact (show False from h).elim
  | tup xs =>
    cases y with
    | tup ys =>
      obtain ⟨hz, q⟩ : xs.length + ys.length ≤ sizeLine ∧ Qd (.tup (xs ++ ys)) A := h
      obtain ⟨a, vs, e1, h1, r1⟩ := rv_tup.mp rx
      obtain ⟨b, ws, e2, h2, r2⟩ := rv_tup.mp ry
      refine .inr (.inl ⟨a, b, vs, ws, e1, e2, h1, h2, by rw [← r1.length, ← r2.length]; exact hz, fun z => ?_, fun _ z => ?_, fun _ _ => k.tup ra (r1.append r2) q⟩)
      · have z' : xs = [] := List.length_eq_zero_iff.mp (by rw [r1.length, z]; rfl)
        subst z'
        rw [← e2]; exact k.here ra ry q
      · have z' : ys = [] := List.length_eq_zero_iff.mp (by rw [r2.length, z]; rfl)
        subst z'
        rw [List.append_nil] at q
        rw [← e1]; exact k.here ra rx q
    | _ => exact (show False from h).elim
  | ref a =>
    cases y with
    | ref b =>
      unfold dBin at h
      dsimp only at h
      split at h
      · next xs ys q1 q2 =>
        obtain ⟨vs, h1, r1⟩ := ra a _ q1
        obtain ⟨ws, h2, r2⟩ := ra b _ q2
        exact .inr (.inr (.inl ⟨a, b, vs, ws, rv_ref.mp rx, rv_ref.mp ry, .inl h1, .inl h2, by rw [← r1.length, ← r2.length]; exact h.1, k.lst ra (r1.append r2) h.2⟩))
      · exact h.elim
    | fl ys =>
      unfold dBin at h
      dsimp only at h
      split at h
      · next xs q1 =>
        obtain ⟨vs, h1, r1⟩ := ra a _ q1
        obtain ⟨b, ws, e2, h2, r2⟩ := rv_fl.mp ry
        exact .inr (.inr (.inl ⟨a, b, vs, ws, rv_ref.mp rx, e2, .inl h1, h2.1, by rw [← r1.length, ← r2.length]; exact h.1, k.lst ra (r1.append r2) h.2⟩))
      · exact h.elim
    | _ => exact (show False from h).elim
  | fl xs =>
    have h : (match flD A y with | some ys => xs.length + ys.length ≤ sizeLine ∧ newL A (xs ++ ys) Qd | none => False) := by cases y <;> exact h
    split at h
    · next ys q1 =>
      obtain ⟨a, vs, e1, h1, r1⟩ := rv_fl.mp rx
      obtain ⟨b, ws, e2, h2, r2⟩ := flD_rv q1 ra ry
      exact .inr (.inr (.inl ⟨a, b, vs, ws, e1, e2, h1.1, h2, by rw [← r1.length, ← r2.length]; exact h.1, k.lst ra (r1.append r2) h.2⟩))
    · exact h.elim
  | _ => cases y <;> exact (show False from h).elim
theorem dop_sub {L : Lk} : DOp L (rI0 fun i j => .int (i - j)) (dBin .sub) := by
  intro x y v u A N H Q Qd rx ry ra h k
  cases x with
  | int i =>
    cases y with
    | int j => exact ⟨i, j, rv_int.mp rx, rv_int.mp ry, k.int ra h⟩
    | _ => exact (show False from h).elim
  | _ => cases y <;> exact (show False from h).elim
theorem dop_fdiv {L : Lk} : DOp L (rI CDiv fun i j => .int (i / j)) (dBin .fdiv) := by
  intro x y v u A N H Q Qd rx ry ra h k
  cases x with
  | int i =>
    cases y with
    | int j => exact ⟨i, j, rv_int.mp rx, rv_int.mp ry, h.1, k.int ra h.2⟩
    | _ => exact (show False from h).elim
  | _ => cases y <;> exact (show False from h).elim
theorem dop_mod {L : Lk} : DOp L (rI (fun _ j => 0 < j) fun i j => .int (i % j)) (dBin .mod) := by
  intro x y v u A N H Q Qd rx ry ra h k
  cases x with
  | int i =>
    cases y with
    | int j => exact ⟨i, j, rv_int.mp rx, rv_int.mp ry, h.1, k.int ra h.2⟩
    | _ => exact (show False from h).elim
  | _ => cases y <;> exact (show False from h).elim
def rRepR : R2 := fun x y H Q => ∃ l k xs, x = .ref l ∧ y = .int k ∧ Rd H l (.lst xs) ∧ -(2 ^ 63) ≤ k ∧ k < 2 ^ 63 ∧ xs.length * k.toNat ≤ sizeLine ∧
  ∀ p, H p = none → Q (.ref p) (upd H p (.lst (List.replicate k.toNat xs).flatten))
theorem op_repR {X : Cx} : OpR X (binaryOp .Mult) rRepR := by
  intro pins s σ H x y v u Q I rx ry h
  obtain ⟨l, k, xs, rfl, rfl, hH, h1, h2, hz, q⟩ := h
  cases rx
  obtain ⟨t, rfl⟩ := ry
  obtain ⟨z, its, n, r, hl, e⟩ := Rd.lstM I hH
  have hlen : its.toArray.size * k.toNat ≤ sizeLine := by rw [List.size_toArray, ← hl]; exact hz
  have hcap : ¬ its.toArray.size * k.toNat > (2 ^ 63 - 1) / 8 := by
    have : (sizeLine : Nat) ≤ (2 ^ 63 - 1) / 8 := by decide
    omega
  have hfit : ¬ (!Builtin.List.listFitsIndex k) = true := by
    rw [fitsIndex_both h1 h2]
    exact Bool.false_ne_true
  have hlong : ¬ Builtin.List.listTooLong (its.toArray.size * k.toNat) = true := by
    rw [notLongL hlen]
    exact Bool.false_ne_true
  have hnew : List.foldl (fun x1 x2 => x1 ++ x2) #[] (List.replicate (if its.toArray.isEmpty = true then 0 else k.toNat) its.toArray) = (List.replicate k.toNat its).flatten.toArray := by
    have f0 : ∀ m : Nat, List.foldl (fun x1 x2 => x1 ++ x2) #[] (List.replicate m its.toArray) = (List.replicate m its).flatten.toArray := fun m => by
      have := foldl_rep its m []
      rw [List.nil_append] at this
      exact this
    rw [f0]
    cases its with
    | nil => simp
    | cons a r' => rw [if_neg (by simp)]
  refine wpAny_binaryOp_repeat_ref (T := "list") (U := "int") (by decide) ⟨_, e, rfl⟩ (fun s' => typeIs_int s' k t) noFill_list_mul F.fills_int_mul F.slot_int_rmul repeat_list F.slot_int_index.lookup
    (call_meets F.slot_int_rmul (typeIs_int s k t) F.entry_int_rmul (F.args_int_rmul_2 _ _) (int___rmul___int_list k t l its.toArray n)
      ⟨e, rfl, ⟨_, e, rfl⟩, call_meets F.slot_list_mul ⟨_, e, rfl⟩ F.entry_list_mul (F.args_list_mul_2 _ _) (AutoListH.list___mul___list_int_3 l its.toArray n k t hfit hcap hlong) ⟨e, ?_⟩⟩)
  rw [hnew]
  exact ⟨.ref _, _, I.lnew (t' := s.toks) (r.rep k.toNat) (by rw [PyProof.Rows.lm_len_rep_flat, Nat.mul_comm]; exact hz), rfl, q _ I.fresh⟩
/-- the tuple of nothing, said often -/
theorem tuple_mulE (l : Addr) (n : Nat) (dd : Option Addr) (sl : Array (Option Value)) (x : Int) (u : Tok) (c0 : (decide (x < -(2 ^ 63)) || decide (x ≥ 2 ^ 63)) = false) :
    Meets (Builtin.«tuple.__mul__» ⟨[.ref l, .int x u], []⟩) (fun _ R s => s.heap.get? l = some { cls := .type "tuple", dict := dd, data := .seq #[] n, slots := sl } ∧
      R (.ok (.ret (Value.ref l))) s) :=
  .of_wp fun prog w A R s h => by
    obtain ⟨hp, g, d, tk, os⟩ := s
    obtain ⟨hl, h⟩ := h
    have f1 := AutoSeq1.idx_int
    wp_walk using wpAny_loadPart' hl
    repeat (refine wpAny_ite_false (decide_eq_false (by rw [c0]; exact Bool.false_ne_true)) ?_; wp_walk using wpAny_loadPart' hl)
    exact ⟨_, rfl, h⟩
def rRepE (K : PySem.W.Frag) : R2 := fun x y H Q => ∃ l k, x = .ref l ∧ y = .int k ∧ SqT K H l [] ∧ 2 ≤ k ∧ k ≤ 1000 ∧ Q (.ref l) H
theorem op_repE {X : Cx} : OpR X (binaryOp .Mult) (rRepE X.K) := by
  intro pins s σ H x y v u Q I rx ry h
  obtain ⟨l, k, rfl, rfl, hT, h1, h2, q⟩ := h
  have rx' := rx
  cases rx
  obtain ⟨t, rfl⟩ := ry
  obtain ⟨its, r, ⟨⟨cls, dd, data, sl⟩, ho, hc, n, hd⟩, hs⟩ := I.tuple hT
  simp only at hc hd
  subst hc hd
  have hn : its = [] := List.eq_nil_of_length_eq_zero (by have := r.length; exact this.symm)
  subst hn
  have c0 : (decide (k < -(2 ^ 63)) || decide (k ≥ 2 ^ 63)) = false := by
    rw [decide_eq_false (by omega), decide_eq_false (by omega)] <;> rfl
  refine wpAny_binaryOp_repeat_ref (T := "tuple") (U := "int") (by decide) ⟨_, ho, rfl⟩ (fun s' => typeIs_int s' k t) noFill_tuple_mul F.fills_int_mul F.slot_int_rmul repeat_tuple F.slot_int_index.lookup
    (call_meets F.slot_int_rmul (typeIs_int s k t) F.entry_int_rmul (F.args_int_rmul_2 _ _) (int_rmul_tuple k t l [].toArray n dd sl)
      ⟨ho, rfl, ⟨_, ho, rfl⟩, call_meets F.slot_tuple_mul ⟨_, ho, rfl⟩ F.entry_tuple_mul (F.args_tuple_mul_2 _ _) (tuple_mulE l n dd sl k t c0) ⟨ho, ?_⟩⟩)
  exact ⟨.ref l, _, I, rx', q⟩
def rMul (K : PySem.W.Frag) : R2 := fun x y H Q => rI CMul (fun i j => .int (i * j)) x y H Q ∨ rRepR x y H Q ∨ rRepT K x y H Q ∨ rRepE K x y H Q
theorem op_mulD {X : Cx} : OpR X (binaryOp .Mult) (rMul X.K) := op_mul.or (op_repR.or (op_repT.or op_repE))
theorem dop_mul {L : Lk} : DOp L (rMul L.K) (dBin .mul) := by
  intro x y v u A N H Q Qd rx ry ra h k
  cases x with
  | int i =>
    cases y with
    | int j => exact .inl ⟨i, j, rv_int.mp rx, rv_int.mp ry, h.1, k.int ra h.2⟩
    | _ => exact (show False from h).elim
  | tup xs =>
    cases y with
    | int j =>
      obtain ⟨h2, h3, h4, q⟩ : 2 ≤ j ∧ j ≤ 1000 ∧ xs.length ≤ 1000 ∧ Qd (.tup (List.replicate j.toNat xs).flatten) A := h
      obtain ⟨a, vs, e1, h1, r1⟩ := rv_tup.mp rx
      by_cases z : xs = []
      · subst z
        have hv : vs = [] := List.length_eq_zero_iff.mp (by rw [← r1.length]; rfl)
        subst hv
        have e0 : (List.replicate j.toNat ([] : List D)).flatten = [] := by simp
        rw [e0] at q
        subst e1
        exact .inr (.inr (.inr ⟨a, j, rfl, rv_int.mp ry, h1, h2, h3, k.here ra rx q⟩))
      · refine .inr (.inr (.inl ⟨a, j, vs, e1, rv_int.mp ry, h1, fun z' => z (List.length_eq_zero_iff.mp (by rw [r1.length, z']; rfl)), h2, h3, by rw [← r1.length]; exact h4, k.tup ra (r1.flatten _) q⟩))
    | _ => exact (show False from h).elim
  | ref a =>
    cases y with
    | int j =>
      unfold dBin at h
      dsimp only at h
      split at h
      · next xs q1 =>
        obtain ⟨vs, h1, r1⟩ := ra a _ q1
        exact .inr (.inl ⟨a, j, vs, rv_ref.mp rx, rv_int.mp ry, .inl h1, h.1.1, h.1.2, by rw [← r1.length]; exact h.2.1, k.lst ra (r1.flatten _) h.2.2⟩)
      · exact h.elim
    | _ => exact (show False from h).elim
  | fl xs =>
    cases y with
    | int j =>
      obtain ⟨hz, h2, q⟩ : (-(2 ^ 63) ≤ j ∧ j < 2 ^ 63) ∧ xs.length * j.toNat ≤ sizeLine ∧ newL A (List.replicate j.toNat xs).flatten Qd := h
      obtain ⟨a, vs, e1, h1, r1⟩ := rv_fl.mp rx
      exact .inr (.inl ⟨a, j, vs, e1, rv_int.mp ry, h1.1, hz.1, hz.2, by rw [← r1.length]; exact h2, k.lst ra (r1.flatten _) q⟩)
    | _ => exact (show False from h).elim
  | _ => cases y <;> exact (show False from h).elim

/-! ### comparisons -/
theorem shaped_pd : ∀ (n : Nat) (A : AH) (d : D) (p : PyData), pd A n d = some p → p.canLay0 = true ∧ p.depth ≤ n + 1 := by
  have scal : ∀ (n : Nat) (A : AH) (d : D) (p : PyData), (match d with | .tup _ => False | .rol _ => False | .fl _ => False | .rod _ _ => False | .ptp _ => False | .ref _ => False | _ => True) → pd A n d = some p → p.canLay0 = true ∧ p.depth ≤ 1 := by
    intro n A d p hs h
    cases d with
    | non => cases n <;> (simp only [pd] at h; cases h; simp [PyData.canLay0, PyData.depth])
    | bl b => cases n <;> (simp only [pd] at h; cases h; simp [PyData.canLay0, PyData.depth])
    | int b => cases n <;> (simp only [pd] at h; cases h; simp [PyData.canLay0, PyData.depth])
    | str b =>
      have h' : (if PyData.strOk b = true then some (PyData.str b) else none) = some p := by cases n <;> (simp only [pd] at h; exact h)
      split at h'
      · next q => cases h'; simp [PyData.canLay0, PyData.depth, q]
      · cases h'
    | _ => exact (show False from hs).elim
  intro n
  induction n with
  | zero =>
    intro A d p h
    cases d with
    | tup _ => simp [pd] at h
    | rol _ => simp [pd] at h
    | fl _ => simp [pd] at h
    | rod _ _ => simp [pd] at h
    | ptp _ => simp [pd] at h
    | ref _ => simp [pd] at h
    | _ => exact scal 0 A _ p True.intro h
  | succ n ih =>
    have many : ∀ (A : AH) (ds : List D) (ps : List PyData), pds (pd A n) ds = some ps → PyData.canLayAll0 ps = true ∧ PyData.depthAll ps ≤ n + 1 := by
      intro A ds
      induction ds with
      | nil => intro ps h; cases h; simp [PyData.canLayAll0, PyData.depthAll]
      | cons d r ihr =>
        intro ps h
        unfold pds at h
        split at h
        · next x xs e1 e2 =>
          cases h
          obtain ⟨a1, a2⟩ := ih A d x e1
          obtain ⟨b1, b2⟩ := ihr xs e2
          simp only [PyData.canLayAll0, PyData.depthAll, a1, b1, Bool.and_self, true_and]
          omega
        · cases h
    intro A d p h
    cases d with
    | tup ds =>
      simp only [pd] at h
      obtain ⟨ps, e, rfl⟩ := Option.map_eq_some_iff.mp h
      obtain ⟨b1, b2⟩ := many A ds ps e
      simp only [PyData.canLay0, PyData.depth]
      exact ⟨b1, by omega⟩
    | rol ds =>
      simp only [pd] at h
      obtain ⟨ps, e, rfl⟩ := Option.map_eq_some_iff.mp h
      obtain ⟨b1, b2⟩ := many A ds ps e
      simp only [PyData.canLay0, PyData.depth]
      exact ⟨b1, by omega⟩
    | fl ds =>
      simp only [pd] at h
      obtain ⟨ps, e, rfl⟩ := Option.map_eq_some_iff.mp h
      obtain ⟨b1, b2⟩ := many A ds ps e
      simp only [PyData.canLay0, PyData.depth]
      exact ⟨b1, by omega⟩
    | rod _ _ => simp [pd] at h
    | ptp _ => simp [pd] at h
    | ref a =>
      simp only [pd] at h
      split at h
      · next ds q =>
        obtain ⟨ps, e, rfl⟩ := Option.map_eq_some_iff.mp h
        obtain ⟨b1, b2⟩ := many A ds ps e
        simp only [PyData.canLay0, PyData.depth]
        exact ⟨b1, by omega⟩
      · cases h
    | non => obtain ⟨a1, a2⟩ := scal (n + 1) A _ p True.intro h; exact ⟨a1, by omega⟩
    | bl _ => obtain ⟨a1, a2⟩ := scal (n + 1) A _ p True.intro h; exact ⟨a1, by omega⟩
    | int _ => obtain ⟨a1, a2⟩ := scal (n + 1) A _ p True.intro h; exact ⟨a1, by omega⟩
    | str _ => obtain ⟨a1, a2⟩ := scal (n + 1) A _ p True.intro h; exact ⟨a1, by omega⟩
theorem shaped_of {A : AH} {d : D} {p : PyData} (h : pd A 6 d = some p) : SeqAt.shaped p = true := by
  obtain ⟨h1, h2⟩ := shaped_pd 6 A d p h
  unfold SeqAt.shaped
  rw [h1, decide_eq_true (by omega)]; rfl
theorem dp_of {L : Lk} {A : AH} {H : Hp} (ra : RA L A N H) : ∀ (n : Nat) (d : D) (p : PyData) (v : V), pd A n d = some p → RV L.K A N H d v → Dp L.K H v p := by
  intro n
  induction n with
  | zero =>
    intro d p v h r
    cases d with
    | non => simp only [pd] at h; cases h; rw [rv_non.mp r]; exact .non
    | bl b => simp only [pd] at h; cases h; rw [rv_bl.mp r]; exact .bl b
    | int b => simp only [pd] at h; cases h; rw [rv_int.mp r]; exact .int b
    | str b =>
      simp only [pd] at h
      split at h
      · cases h; rw [rv_str.mp r]; exact .str b
      · cases h
    | tup _ => simp [pd] at h
    | rol _ => simp [pd] at h
    | fl _ => simp [pd] at h
    | rod _ _ => simp [pd] at h
    | ptp _ => simp [pd] at h
    | ref _ => simp [pd] at h
  | succ n ih =>
    have many : ∀ (ds : List D) (ps : List PyData) (vs : List V), pds (pd A n) ds = some ps → RVs L.K A N H ds vs → DpAll L.K H vs ps := by
      intro ds
      induction ds with
      | nil => intro ps vs h r; cases h; rw [r.nil']; exact .nil
      | cons d r ihr =>
        intro ps vs h rr
        obtain ⟨v, vr, rfl, r1, r2⟩ := rr.cons'
        unfold pds at h
        split at h
        · next x xs e1 e2 =>
          cases h
          exact .cons (ih d x v e1 r1) (ihr xs vr e2 r2)
        · cases h
    intro d p v h r
    cases d with
    | non => simp only [pd] at h; cases h; rw [rv_non.mp r]; exact .non
    | bl b => simp only [pd] at h; cases h; rw [rv_bl.mp r]; exact .bl b
    | int b => simp only [pd] at h; cases h; rw [rv_int.mp r]; exact .int b
    | str b =>
      simp only [pd] at h
      split at h
      · cases h; rw [rv_str.mp r]; exact .str b
      · cases h
    | tup ds =>
      simp only [pd] at h
      obtain ⟨ps, e, rfl⟩ := Option.map_eq_some_iff.mp h
      obtain ⟨a, vs, rfl, h1, h2⟩ := rv_tup.mp r
      exact .tup h1 (many ds ps vs e h2)
    | rol ds =>
      simp only [pd] at h
      obtain ⟨ps, e, rfl⟩ := Option.map_eq_some_iff.mp h
      obtain ⟨a, vs, rfl, h1, h2⟩ := rv_rol.mp r
      exact .lst h1.seq (many ds ps vs e h2)
    | fl ds =>
      simp only [pd] at h
      obtain ⟨ps, e, rfl⟩ := Option.map_eq_some_iff.mp h
      obtain ⟨a, vs, rfl, h1, h2⟩ := rv_fl.mp r
      exact .lst (.inl h1.1) (many ds ps vs e h2)
    | rod _ _ => simp [pd] at h
    | ptp _ => simp [pd] at h
    | ref a =>
      simp only [pd] at h
      split at h
      · next ds q =>
        obtain ⟨ps, e, rfl⟩ := Option.map_eq_some_iff.mp h
        obtain ⟨vs, h1, h2⟩ := ra a _ q
        rw [rv_ref.mp r]
        exact .lst (SqL.of h1) (many ds ps vs e h2)
      · cases h
theorem dop_eq {L : Lk} : DOp L (rEqD L.K) (dCmp .eq) := by
  intro x y v u A N H Q Qd rx ry ra h k
  unfold dCmp at h
  dsimp only at h
  split at h
  · next p q e1 e2 => exact ⟨p, q, dp_of ra 6 x p v e1 rx, dp_of ra 6 y q u e2 ry, shaped_of e1, shaped_of e2, k.bl ra h⟩
  · exact h.elim
theorem dop_ne {L : Lk} : DOp L (rNeD L.K) (dCmp .ne) := by
  intro x y v u A N H Q Qd rx ry ra h k
  unfold dCmp at h
  dsimp only at h
  split at h
  · next p q e1 e2 => exact ⟨p, q, dp_of ra 6 x p v e1 rx, dp_of ra 6 y q u e2 ry, shaped_of e1, shaped_of e2, k.bl ra h⟩
  · exact h.elim
theorem dop_lt {L : Lk} : DOp L (rI0 fun i j => .bl (decide (i < j))) (dCmp .lt) := by
  intro x y v u A N H Q Qd rx ry ra h k
  cases x with
  | int i =>
    cases y with
    | int j => exact ⟨i, j, rv_int.mp rx, rv_int.mp ry, k.bl ra h⟩
    | _ => exact (show False from h).elim
  | _ => cases y <;> exact (show False from h).elim
theorem dop_le {L : Lk} : DOp L (rI0 fun i j => .bl (decide (i ≤ j))) (dCmp .le) := by
  intro x y v u A N H Q Qd rx ry ra h k
  cases x with
  | int i =>
    cases y with
    | int j => exact ⟨i, j, rv_int.mp rx, rv_int.mp ry, k.bl ra h⟩
    | _ => exact (show False from h).elim
  | _ => cases y <;> exact (show False from h).elim
theorem dop_gt {L : Lk} : DOp L (rI0 fun i j => .bl (decide (j < i))) (dCmp .gt) := by
  intro x y v u A N H Q Qd rx ry ra h k
  cases x with
  | int i =>
    cases y with
    | int j => exact ⟨i, j, rv_int.mp rx, rv_int.mp ry, k.bl ra h⟩
    | _ => exact (show False from h).elim
  | _ => cases y <;> exact (show False from h).elim
theorem dop_ge {L : Lk} : DOp L (rI0 fun i j => .bl (decide (j ≤ i))) (dCmp .ge) := by
  intro x y v u A N H Q Qd rx ry ra h k
  cases x with
  | int i =>
    cases y with
    | int j => exact ⟨i, j, rv_int.mp rx, rv_int.mp ry, k.bl ra h⟩
    | _ => exact (show False from h).elim
  | _ => cases y <;> exact (show False from h).elim
/-! ### in, of dicts, of data at any depth, of a text's signs -/
def rKin (neg : Bool) : R2 := fun x y H Q => ∃ a ws k, x = kV k ∧ y = .ref a ∧ Rd H a (.dK ws) ∧ Q (.bl (if neg then !(valV ws k).isSome else (valV ws k).isSome)) H
theorem op_kin {X : Cx} (hu : X.A.units + 1 < cLine) : OpR X (compareOp .In) (rKin false) := by
  intro pins s σ H x y v u Q I rx ry h
  obtain ⟨a, ws, k, rfl, rfl, h1, q⟩ := h
  cases ry
  exact d_in hu I (.inl ⟨ws, k, h1, rfl, rfl⟩) rx fun s3 I3 => ⟨.bl _, H, I3, rfl, q⟩
theorem op_nkin {X : Cx} (hu : X.A.units + 1 < cLine) : OpR X (compareOp .NotIn) (rKin true) := by
  intro pins s σ H x y v u Q I rx ry h
  obtain ⟨a, ws, k, rfl, rfl, h1, q⟩ := h
  cases ry
  exact d_notIn hu I (.inl ⟨ws, k, h1, rfl, rfl⟩) rx fun s3 I3 => ⟨.bl _, H, I3, rfl, q⟩
theorem RKs.isSome {L : Lk} {A : AH} {N : Addr → Prop} {H : Hp} {kvs : List (Key × D)} {ws : List (Key × V)} (h : RKs L.K A N H kvs ws) (k : Key) : (valV ws k).isSome = (valD kvs k).isSome := by
  have := h.val k
  revert this
  cases valD kvs k <;> cases valV ws k <;> intro h <;> first | rfl | exact (show False from h).elim
theorem dop_kin {L : Lk} : DOp L (rKin false) (dCmp .kin) := by
  intro x y v u A N H Q Qd rx ry ra h k
  unfold dCmp at h
  dsimp only at h
  split at h
  · next kvs ky e1 e2 =>
    obtain ⟨a, ws, rfl, h1, h2⟩ := dicD_rv e1 ra ry
    refine ⟨a, ws, ky, keyD_rv e2 rx, rfl, h1, ?_⟩
    rw [if_neg Bool.false_ne_true, h2.isSome]
    exact k.bl ra h
  · exact h.elim
theorem dop_nkin {L : Lk} : DOp L (rKin true) (dCmp .nkin) := by
  intro x y v u A N H Q Qd rx ry ra h k
  unfold dCmp at h
  dsimp only at h
  split at h
  · next kvs ky e1 e2 =>
    obtain ⟨a, ws, rfl, h1, h2⟩ := dicD_rv e1 ra ry
    refine ⟨a, ws, ky, keyD_rv e2 rx, rfl, h1, ?_⟩
    rw [if_pos rfl, h2.isSome]
    exact k.bl ra h
  · exact h.elim
def rInDp (K : PySem.W.Frag) (neg : Bool) : R2 := fun x y H Q => ∃ d ds, Dp K H x d ∧ (Dp K H y (.list ds) ∨ Dp K H y (.tuple ds)) ∧ SeqAt.shaped d = true ∧ PyData.canLayAll0 ds = true ∧ Q (.bl (if neg then !(ds.any fun z => PyData.eqv z d) else ds.any fun z => PyData.eqv z d)) H
theorem op_ninDp {X : Cx} (hu : X.A.units + 65 < cLine) : OpR X (compareOp .NotIn) (rInDp X.K true) := by
  intro pins s σ H x y v u Q I rx ry h
  obtain ⟨d, ds, hd, he, sd, se, q⟩ := h
  obtain ⟨as, r1⟩ := Dp.reads I d x v hd rx
  rcases he with he | he
  · obtain ⟨bs, r2⟩ := Dp.reads I (.list ds) y u he ry
    exact SeqAt.notIn_list_reads r2 r1 se (SeqAt.canLay_of_shaped sd) (room_in_shaped sd hu) ⟨.bl _, H, I, rfl, q⟩
  · obtain ⟨bs, r2⟩ := Dp.reads I (.tuple ds) y u he ry
    exact SeqAt.notIn_tuple_reads r2 r1 se (SeqAt.canLay_of_shaped sd) (room_in_shaped sd hu) ⟨.bl _, H, I, rfl, q⟩
theorem pds_shaped {A : AH} : ∀ {ds : List D} {ps : List PyData}, pds (pd A 6) ds = some ps → PyData.canLayAll0 ps = true
  | [], ps, h => by cases h; rfl
  | d :: ds, ps, h => by
    unfold pds at h
    split at h
    · next x xs e1 e2 =>
      cases h
      simp only [PyData.canLayAll0, (shaped_pd 6 A d x e1).1, pds_shaped e2, Bool.and_self]
    · cases h
theorem dps_of {L : Lk} {A : AH} {N : Addr → Prop} {H : Hp} (ra : RA L A N H) : ∀ {ds : List D} {ps : List PyData} {vs : List V}, pds (pd A 6) ds = some ps → RVs L.K A N H ds vs → DpAll L.K H vs ps
  | [], ps, vs, h, r => by cases h; rw [r.nil']; exact .nil
  | d :: ds, ps, vs, h, r => by
    obtain ⟨v, vr, rfl, r1, r2⟩ := r.cons'
    unfold pds at h
    split at h
    · next x xs e1 e2 =>
      cases h
      exact .cons (dp_of ra 6 d x v e1 r1) (dps_of ra e2 r2)
    · cases h
theorem dop_ndin {L : Lk} : DOp L (rInDp L.K true) (dCmp .ndin) := by
  intro x y v u A N H Q Qd rx ry ra h k
  unfold dCmp at h
  dsimp only at h
  split at h
  · next ys e =>
    split at h
    · next p ps e1 e2 =>
      obtain ⟨a, vs, rfl, h1, h2⟩ := seqD_rv e ra ry
      refine ⟨p, ps, dp_of ra 6 x p v e1 rx, ?_, shaped_of e1, pds_shaped e2, ?_⟩
      · rcases h1 with h1 | h1
        · exact .inl (.lst h1 (dps_of ra e2 h2))
        · exact .inr (.tup h1 (dps_of ra e2 h2))
      · rw [if_pos rfl]; exact k.bl ra h
    · exact h.elim
  · exact h.elim
def rSin (neg : Bool) : R2 := fun x y H Q => ∃ (c : Nat) (z : Str), x = .str ⟨#[c]⟩ ∧ y = .str z ∧ Q (.bl (if neg then !decide (c ∈ z.cps.toList) else decide (c ∈ z.cps.toList))) H
end DL

set_option Elab.async false
set_option linter.all false
set_option maxRecDepth 100000
/-! rules of expressions, further -/
namespace DL
open PySem PySem.Spec PyProof.Rows L2
section
variable {L : Lk} {G : Gm} {n : Nat} {X : Cx} {a b c e : Expr} {es : List Expr} {ia ib ic ie : IE} {ies : List IE} {pos : Pos} {x : Str}
theorem rs_get {K : PySem.W.Frag} {H : Hp} {δ : DSt} {σ : L2.St} (r : RS K A N H δ σ) {i : Nat} {d : D} (e : δ[i]? = some (some d)) : ∃ v, σ[i]? = some (some v) ∧ RV K A N H d v := r.2 i d e
theorem de_var {i : Nat} (hN : X.N[i]? = some x) (hv : Vis X.env.scope x) (hd : (x == ("__debug__" : Str)) = false) (hcd : (x == ("__classdict__" : Str)) = false) : DE L G n X (.Name x pos) (.var i) := fun C W tk =>
  pe_imp (pe_var hN hv hd hcd) fun σ H Q ⟨N, δ, A, Qd, Ed, rs, ra, h, hq, hx⟩ => by
    simp only [wpE] at h
    split at h
    · next d e =>
      obtain ⟨v, e1, r⟩ := rs_get rs e
      exact ⟨v, e1, Kt.here hq ra r h⟩
    · exact h.elim
theorem de_cst {v : V} {d : D} (h : PE X e (tC v)) (r : ∀ K A N H, RV K A N H d v) : DE L G n X e (.cst d) := fun C W tk =>
  pe_imp h fun σ H Q ⟨N, δ, A, Qd, Ed, rs, ra, h, hq, hx⟩ => Kt.here hq ra (r _ _ _ _) h
theorem de_int {i : Int} {j : Nat} : DE L G n X (.Constant (.int i) j pos) (.cst (.int i)) := de_cst pe_int fun _ _ _ _ => rv_int.mpr rfl
theorem de_bl {i : Bool} {j : Nat} : DE L G n X (.Constant (.bool i) j pos) (.cst (.bl i)) := de_cst pe_bl fun _ _ _ _ => rv_bl.mpr rfl
theorem de_non {j : Nat} : DE L G n X (.Constant .none j pos) (.cst .non) := de_cst pe_non fun _ _ _ _ => rv_non.mpr rfl
theorem de_gint {i : Int} {t : Tok} (hg : Gl X x) (hm : X.mg x = some (.int i t)) (hd : (x == ("__debug__" : Str)) = false) : DE L G n X (.Name x pos) (.cst (.int i)) :=
  de_cst (pe_glob (v := .int i) hg hm ⟨t, rfl⟩ hd) fun _ _ _ _ => rv_int.mpr rfl
/-! ### lists of arguments, displays -/
theorem da_nil : DA L G n X [] [] := fun C W tk => pa_imp pa_nil fun σ H Q ⟨N, δ, A, Qd, Ed, rs, ra, h, hq, hx⟩ => hq [] A [] H .nil ra (Ext.refl _ _) h
theorem da_cons (ha : DE L G n X e ie) (hr : DA L G n X es ies) (hs : starEach (e :: es) X.env = (false, eval e X.env) :: starEach es X.env) : DA L G n X (e :: es) (ie :: ies) := fun C W tk =>
  pa_imp (pa_cons (ha C W tk) (hr C W tk) hs) fun σ H Q ⟨N, δ, A, Qd, Ed, rs, ra, h, hq, hx⟩ =>
    LE.use rs ra h (fun d A1 v1 H1 rv1 ra1 ex1 rs1 q1 => LAs.use rs1 ra1 q1 (fun ds A2 vs H2 rv2 ra2 ex2 rs2 q2 =>
      hq (d :: ds) A2 (v1 :: vs) H2 (.cons (RV.stay (ex2.stay ra1) _ _ rv1) rv2) ra2 (ex1.trans ex2) q2) (XW.ext hx ex1)) hx
theorem de_tup {k : Nat} (h : DA L G n X es ies) : DE L G n X (.Tuple es k pos) (.tup ies) := fun C W tk =>
  pe_imp (pe_tup (h C W tk)) fun σ H Q ⟨N, δ, A, Qd, Ed, rs, ra, h, hq, hx⟩ =>
    LAs.use rs ra h (fun ds A1 vs H1 rv1 ra1 ex1 rs1 q1 => ⟨by rw [← rv1.length]; exact q1.1, Kt.tup (fun d A' v' H' r1 r2 e q => hq d A' v' H' r1 r2 (ex1.trans e) q) ra1 rv1 q1.2⟩) hx
theorem de_lst (h : DA L G n X es ies) : DE L G n X (.List es pos) (.lst ies) := fun C W tk =>
  pe_imp (pe_lst (h C W tk)) fun σ H Q ⟨N, δ, A, Qd, Ed, rs, ra, h, hq, hx⟩ =>
    LAs.use rs ra h (fun ds A1 vs H1 rv1 ra1 ex1 rs1 q1 => ⟨by rw [← rv1.length]; exact q1.1, Kt.lst (fun d A' v' H' r1 r2 e q => hq d A' v' H' r1 r2 (ex1.trans e) q) ra1 rv1 q1.2⟩) hx

/-! ### unary, is, and, or, not -/
theorem de_neg (ha : DE L G n X a ia) : DE L G n X (.UnaryOp .USub a pos) (.neg ia) := fun C W tk =>
  pe_imp (pe_un un_neg (ha C W tk)) fun σ H Q ⟨N, δ, A, Qd, Ed, rs, ra, h, hq, hx⟩ =>
    LE.use rs ra h (fun d A1 v1 H1 rv1 ra1 ex1 rs1 q1 => by
      cases d with
      | int i => exact ⟨i, rv_int.mp rv1, hq _ A1 _ H1 (rv_int.mpr rfl) ra1 ex1 q1⟩
      | _ => exact q1.elim) hx
theorem rv_isn {K : PySem.W.Frag} {H : Hp} {d : D} {v : V} (r : RV K A N H d v) : decide (v = .non) = isNonD d := by
  cases d with
  | non => rw [rv_non.mp r]; rfl
  | bl b => rw [rv_bl.mp r]; rfl
  | int b => rw [rv_int.mp r]; rfl
  | str b => rw [rv_str.mp r]; rfl
  | ref b => rw [rv_ref.mp r]; rfl
  | tup b => obtain ⟨_, _, e, _⟩ := rv_tup.mp r; rw [e]; rfl
  | rol b => obtain ⟨_, _, e, _⟩ := rv_rol.mp r; rw [e]; rfl
  | fl b => obtain ⟨_, _, e, _⟩ := rv_fl.mp r; rw [e]; rfl
  | rod _ b => obtain ⟨_, _, e, _⟩ := rv_rod.mp r; rw [e]; rfl
  | ptp b => obtain ⟨_, _, _, e, _⟩ := rv_ptp.mp r; rw [e]; rfl
variable {op : BoolOp} {rest : List Expr}
theorem de_one (ha : DE L G n X a ia) : DE L G n X (.BoolOp op [a] pos) ia := fun C W tk => pe_one (ha C W tk)
theorem de_and (ha : DE L G n X a ia) (hb : DE L G n X (.BoolOp .And (b :: rest) pos) ib) : DE L G n X (.BoolOp .And (a :: b :: rest) pos) (.andv ia ib) := fun C W tk =>
  pe_imp (pe_and (ha C W tk) (hb C W tk)) fun σ H Q ⟨N, δ, A, Qd, Ed, rs, ra, h, hq, hx⟩ =>
    LE.use rs ra h (fun d A1 v1 H1 rv1 ra1 ex1 rs1 q1 => by
      cases d with
      | bl i =>
        refine ⟨i, rv_bl.mp rv1, ?_⟩
        have q1 : (if i = true then wpE (callN G n) G ib δ A1 Qd Ed else Qd (.bl false) A1) := q1
        cases i with
        | true => rw [if_pos rfl] at q1 ⊢; exact LE.use rs1 ra1 q1 (fun d A' v' H' r1 r2 e _ q => hq d A' v' H' r1 r2 (ex1.trans e) q) (XW.ext hx ex1)
        | false => rw [if_neg Bool.false_ne_true] at q1 ⊢; exact hq _ A1 _ H1 (rv_bl.mpr rfl) ra1 ex1 q1
      | _ => exact (show False from q1).elim) hx
/-! ### tests -/
variable {it iu : IT}
/-- a thing told no more -/
theorem fz_of {A : AH} {N : Addr → Prop} {H : Hp} {d : D} {v : V} {Q : VK} {Qd : QE} (h : dFz d A Qd) (ra : RA L A N H) (r : RV L.K A N H d v) (k : ∀ d A' v H', RV L.K A' N H' d v → RA L A' N H' → Ext A H A' H' → Qd d A' → Q v H') : Q v H := by
  have same : Qd d A → Q v H := fun q => k d A v H r ra (Ext.refl _ _) q
  cases d with
  | ref p =>
    rw [rv_ref.mp r] at same ⊢
    unfold dFz at h
    dsimp only at h
    have ex : Ext A H (del A p) H := (Ext.refl A H).sub .del
    split at h
    · next xs q => exact k _ _ _ H (fl_of q ra) (ra.sub .del) ex h
    · next kvs q => exact k _ _ _ H (rod_of q ra) (ra.sub .del) ex h
    · exact same h
  | _ => exact same h
theorem de_fz (ha : DE L G n X a ia) : DE L G n X a (.fz ia) := fun C W tk =>
  pe_imp (ha C W tk) fun σ H Q ⟨N, δ, A, Qd, Ed, rs, ra, h, hq, hx⟩ =>
    ⟨N, δ, A, _, Ed, rs, ra, h, fun d A1 v1 H1 rv1 ra1 ex1 q1 => fz_of q1 ra1 rv1 fun d A' v H' r1 r2 e q => hq d A' v H' r1 r2 (ex1.trans e) q, hx⟩
theorem tru_of {A : AH} {H : Hp} {d : D} {v : V} {Q : Bool → AH → Prop} (h : dTru d A Q) (ra : RA L A N H) (r : RV L.K A N H d v) : ∃ k, TruV L.K v H k ∧ Q k A := by
  cases d with
  | non => rw [rv_non.mp r]; exact ⟨_, rfl, h⟩
  | bl b => rw [rv_bl.mp r]; exact ⟨_, rfl, h⟩
  | int b => rw [rv_int.mp r]; exact ⟨_, rfl, h⟩
  | str b => rw [rv_str.mp r]; exact ⟨_, ⟨h.1, rfl⟩, h.2⟩
  | tup xs =>
    obtain ⟨p, vs, e, h1, h2⟩ := rv_tup.mp r
    rw [e]
    refine ⟨_, .inr (.inl ⟨vs, h1, rfl⟩), ?_⟩
    have q : Q (!xs.isEmpty) A := h
    have e2 : vs.isEmpty = xs.isEmpty := by
      have := h2.length
      cases xs <;> cases vs <;> first | rfl | (simp at this)
    rw [e2]; exact q
  | rol xs =>
    obtain ⟨p, vs, e, h1, h2⟩ := rv_rol.mp r
    rw [e]
    refine ⟨_, .inl ⟨vs, h1.seq, rfl⟩, ?_⟩
    have q : Q (!xs.isEmpty) A := h
    have e2 : vs.isEmpty = xs.isEmpty := by
      have := h2.length
      cases xs <;> cases vs <;> first | rfl | (simp at this)
    rw [e2]; exact q
  | fl xs =>
    obtain ⟨p, vs, e, h1, h2⟩ := rv_fl.mp r
    rw [e]
    refine ⟨_, .inl ⟨vs, .inl h1.1, rfl⟩, ?_⟩
    have q : Q (!xs.isEmpty) A := h
    have e2 : vs.isEmpty = xs.isEmpty := by
      have := h2.length
      cases xs <;> cases vs <;> first | rfl | (simp at this)
    rw [e2]; exact q
  | rod _ _ => exact (show False from h).elim
  | ptp _ => exact (show False from h).elim
  | ref p =>
    rw [rv_ref.mp r]
    unfold dTru at h
    dsimp only at h
    split at h
    · next xs q =>
      obtain ⟨vs, h1, h2⟩ := ra p _ q
      refine ⟨_, .inl ⟨vs, SqL.of h1, rfl⟩, ?_⟩
      have e2 : vs.isEmpty = xs.isEmpty := by
        have := h2.length
        cases xs <;> cases vs <;> first | rfl | (simp at this)
      rw [e2]; exact h
    · next kvs q =>
      obtain ⟨ws, h1, h2, h3⟩ := ra p _ q
      refine ⟨_, .inr (.inr ⟨ws, h1, rfl⟩), ?_⟩
      have e2 : ws.isEmpty = kvs.isEmpty := by
        have := congrArg List.length h2
        cases kvs <;> cases ws <;> first | rfl | (simp at this)
      rw [e2]; exact h
    · exact h.elim
/-- an expression's truth -/
theorem dt_val (ha : DE L G n X a ia) (he : ∀ whole, isTrue a X.env whole = (do let v ← whole; standAt a.pos; holding [v] (truthy v))) : DT L G n X a (.val ia) := fun C W tk =>
  pt_imp (pt_truth (ha C W tk) he) fun σ H Q ⟨N, δ, A, Qd, Ed, rs, ra, h, hq, hx⟩ =>
    LE.use rs ra h (fun d A1 v1 H1 rv1 ra1 ex1 rs1 q1 => by
      obtain ⟨k, h1, h2⟩ := tru_of q1 ra1 rv1
      exact ⟨k, by rw [C.K]; exact h1, hq k A1 H1 ra1 ex1 h2⟩) hx
/-- a comparison tells a bool -/
theorem dCmp_bl {o : CO} {x y : D} {A : AH} {Q : QE} (h : dCmp o x y A Q) : dCmp o x y A (fun d A' => ∃ k, d = .bl k ∧ Q (.bl k) A') := by
  unfold dCmp at *
  cases o <;> dsimp only at * <;> split at h <;> first
    | exact h.elim
    | exact ⟨_, rfl, h⟩
    | exact ⟨h.1, h.2.1, _, rfl, h.2.2⟩
    | (split at h <;> first | exact h.elim | exact ⟨_, rfl, h⟩)
theorem dt_cmp {op : CmpOp} {o : CO} {r : R2} (ho : OpR X (compareOp op) r) (hr : X.K = L.K → DOp L r (dCmp o)) (hm : behindInMarks op b = false) (ha : DE L G n X a ia) (hb : DE L G n X b ib) : DT L G n X (.Compare a [op] [b] pos) (.val (.cmp o ia ib)) := fun C W tk =>
  pt_imp (pt_cmpR ho (ha C W tk) (hb C W tk) hm) fun σ H Q ⟨N, δ, A, Qd, Ed, rs, ra, h, hq, hx⟩ =>
    LE.use rs ra h (fun x A1 v1 H1 rv1 ra1 ex1 rs1 q1 => LE.use rs1 ra1 q1 (fun y A2 v2 H2 rv2 ra2 ex2 rs2 q2 =>
      hr C.K x y v1 v2 A2 N H2 _ _ (RV.stay (ex2.stay ra1) _ _ rv1) rv2 ra2 (dCmp_bl q2) fun d A' v' H' r1 r2 e q => by
        obtain ⟨k, rfl, q⟩ := q
        exact ⟨k, rv_bl.mp r1, hq k A' H' r2 ((ex1.trans ex2).trans e) q⟩) (XW.ext hx ex1)) hx
theorem dt_isn {j : Nat} {p : Pos} (ha : DE L G n X a ia) : DT L G n X (.Compare a [.Is] [.Constant .none j p] pos) (.val (.isn false ia)) := fun C W tk =>
  pt_imp (pt_cmp (pc_isN (ha C W tk)) rfl) fun σ H Q ⟨N, δ, A, Qd, Ed, rs, ra, h, hq, hx⟩ =>
    LE.use rs ra h (fun d A1 v1 H1 rv1 ra1 ex1 rs1 q1 => ⟨_, rfl, by rw [rv_isn rv1]; exact hq _ A1 H1 ra1 ex1 q1⟩) hx
theorem dt_notn {j : Nat} {p : Pos} (ha : DE L G n X a ia) : DT L G n X (.Compare a [.IsNot] [.Constant .none j p] pos) (.val (.isn true ia)) := fun C W tk =>
  pt_imp (pt_cmp (pc_notN (ha C W tk)) rfl) fun σ H Q ⟨N, δ, A, Qd, Ed, rs, ra, h, hq, hx⟩ =>
    LE.use rs ra h (fun d A1 v1 H1 rv1 ra1 ex1 rs1 q1 => ⟨_, rfl, by rw [rv_isn rv1]; exact hq _ A1 H1 ra1 ex1 q1⟩) hx
theorem dt_chn {op op' : CmpOp} {o p : CO} {r r' : R2} (ho : OpR X (compareOp op) r) (ho' : OpR X (compareOp op') r') (hr : X.K = L.K → DOp L r (dCmp o)) (hr' : X.K = L.K → DOp L r' (dCmp p)) (hm : lastMarks [op, op'] [b, c] = false)
    (ha : DE L G n X a ia) (hb : DE L G n X b ib) (hc : DE L G n X c ic) : DT L G n X (.Compare a [op, op'] [b, c] pos) (.val (.chn o p ia ib ic)) := fun C W tk =>
  pt_imp (pt_chain ho ho' (ha C W tk) (hb C W tk) (hc C W tk) hm) fun σ H Q ⟨N, δ, A, Qd, Ed, rs, ra, h, hq, hx⟩ =>
    LE.use rs ra h (fun x A1 v1 H1 rv1 ra1 ex1 rs1 q1 => LE.use rs1 ra1 q1 (fun y A2 v2 H2 rv2 ra2 ex2 rs2 q2 =>
      hr C.K x y v1 v2 A2 N H2 _ _ (RV.stay (ex2.stay ra1) _ _ rv1) rv2 ra2 (dCmp_bl q2) fun d A3 v3 H3 r1 r2 ex3 q => by
        obtain ⟨k, rfl, q⟩ := q
        refine ⟨k, rv_bl.mp r1, ?_⟩
        have e3 := (ex1.trans ex2).trans ex3
        have q : (if k = true then wpE (callN G n) G ic δ A3 (fun z A4 => dCmp p y z A4 (fun x A1 => dTru x A1 Qd)) Ed else Qd false A3) := q
        have rs3 := rs2.stay (ex3.stay ra2)
        have rv3 := RV.stay (ex3.stay ra2) _ _ rv2
        cases k with
        | true =>
          rw [if_pos rfl] at q ⊢
          exact LE.use rs3 r2 q (fun z A4 v4 H4 rv4 ra4 ex4 rs4 q4 => hr' C.K y z v2 v4 A4 N H4 _ _ (RV.stay (ex4.stay r2) _ _ rv3) rv4 ra4 (dCmp_bl q4) fun d A' v' H' r1 r2 e q => by
            obtain ⟨k, rfl, q⟩ := q
            exact ⟨k, rv_bl.mp r1, hq k A' H' r2 ((e3.trans ex4).trans e) q⟩) (XW.ext hx e3)
        | false => rw [if_neg Bool.false_ne_true] at q ⊢; exact ⟨false, rfl, hq false A3 H3 r2 e3 q⟩) (XW.ext hx ex1)) hx
/-- and, or, not -/
theorem dw_and1 (ha : DT L G n X a it) : DW L G n X (.BoolOp .And [a] pos) it := fun C W tk => pw_and1 (ha C W tk)
theorem dw_or1 (ha : DT L G n X a it) : DW L G n X (.BoolOp .Or [a] pos) it := fun C W tk => pw_or1 (ha C W tk)
theorem dw_and (ha : DT L G n X a it) (hb : DW L G n X (.BoolOp .And (b :: rest) pos) iu) : DW L G n X (.BoolOp .And (a :: b :: rest) pos) (.and it iu) := fun C W tk =>
  pw_imp (pw_and (ha C W tk) (hb C W tk)) fun σ H Q ⟨N, δ, A, Qd, Ed, rs, ra, h, hq, hx⟩ =>
    LT.use rs ra h (fun k A1 H1 ra1 ex1 rs1 q1 => by
      cases k with
      | true => rw [if_pos rfl] at q1 ⊢; exact LT.use rs1 ra1 q1 (fun d A' H' r2 e _ q => hq d A' H' r2 (ex1.trans e) q) (XW.ext hx ex1)
      | false => rw [if_neg Bool.false_ne_true] at q1 ⊢; exact hq _ A1 H1 ra1 ex1 q1) hx
theorem dw_or (ha : DT L G n X a it) (hb : DW L G n X (.BoolOp .Or (b :: rest) pos) iu) : DW L G n X (.BoolOp .Or (a :: b :: rest) pos) (.or it iu) := fun C W tk =>
  pw_imp (pw_or (ha C W tk) (hb C W tk)) fun σ H Q ⟨N, δ, A, Qd, Ed, rs, ra, h, hq, hx⟩ =>
    LT.use rs ra h (fun k A1 H1 ra1 ex1 rs1 q1 => by
      cases k with
      | false => rw [if_neg Bool.false_ne_true] at q1 ⊢; exact LT.use rs1 ra1 q1 (fun d A' H' r2 e _ q => hq d A' H' r2 (ex1.trans e) q) (XW.ext hx ex1)
      | true => rw [if_pos rfl] at q1 ⊢; exact hq _ A1 H1 ra1 ex1 q1) hx
theorem dt_w (h : DW L G n X a it) : DT L G n X a it := fun C W tk => (h C W tk).pt
theorem dt_not (ha : DT L G n X a it) : DT L G n X (.UnaryOp .Not a pos) (.not it) := fun C W tk =>
  pt_imp (pt_not (ha C W tk)) fun σ H Q ⟨N, δ, A, Qd, Ed, rs, ra, h, hq, hx⟩ =>
    LT.use rs ra h (fun k A1 H1 ra1 ex1 rs1 q1 => hq _ A1 H1 ra1 ex1 q1) hx
end
end DL

set_option Elab.async false
set_option linter.all false
set_option maxRecDepth 100000
/-! sorted of a tuple -/
namespace DL
open PySem PySem.Spec PyProof.Rows L2
section
variable {prog : Program} {w : World} {A : Around} {E : Value → Shared → Prop} {s : Shared}
/-- the heap behind a collecting: a new list of what came -/
def colHeap (g : Heap) (us : List Value) : Heap := Heap.update (g.push (seqObj "list" #[] 0)) g.objs.size (Obj.mapSeq fun z => z ++ us.toArray)
theorem collectT {t : Addr} {us : List Value} {R : List Value → Shared → Prop} (ht : IsTup s.heap t us.toArray) (hz : us.length ≤ sizeLine) (q : R us { s with heap := colHeap s.heap us }) :
    wpAny (model prog w) A (collect (.ref t)) R E s := by
  obtain ⟨ob, h1, h2, m, h3⟩ := ht
  have h4 : (s.heap.push (seqObj "list" #[] 0)).get? t = some ob := Heap.get?_push_of_some _ h1
  have h5 : (s.heap.push (seqObj "list" #[] 0)).get? s.heap.objs.size = some (seqObj "list" #[] 0) := Heap.get?_push_size _ rfl
  unfold collect
  refine wpAny_bind (wpAny_runValue (codeAny_builtin entry_proto_collect' ?_))
  refine wpAny_bind (m := newList []) (wpAny_newList (wpAny_pure ⟨Code.quiet_builtin _ (by decide +kernel), codeAny_builtin entry_list_iadd' ?_⟩))
  show wpAny _ _ (Builtin.List.listExtendWith (.ref s.heap.objs.size) (.ref t) (.ref s.heap.objs.size)) _ _ _
  unfold Builtin.List.listExtendWith
  refine wpAny_bind (wpAny_typeOf (T := "tuple") ⟨ob, h4, h2⟩ ?_)
  rw [if_pos (by rw [show (Value.type "tuple" == Value.type "tuple") = true from by rfl, Bool.or_true])]
  refine wpAny_bind (listItems_at h4 h3 (wpAny_bind (listItems_at h5 rfl ?_)))
  rw [if_neg (by simp)]
  refine wpAny_bind (listUpdate_at h5 rfl (wpAny_pure ?_) (Nat.zero_le _) ?_)
  · show wpAny (model prog w) A (load s.heap.objs.size >>= fun o => match o.data with | .seq xs _ => pure xs.toList | _ => unsupported "internal:collect") R E { s with heap := colHeap s.heap us }
    refine wpAny_bind (wpAny_load (get?_update_seq h5 _) ?_)
    have e : ((#[] : Array Value) ++ us.toArray).toList = us := by simp
    show wpAny _ _ (pure ((#[] : Array Value) ++ us.toArray).toList) R E _
    rw [e]
    exact wpAny_pure q
  · show ((#[] : Array Value) ++ us.toArray).size ≤ sizeLine + 1
    rw [Array.size_append, List.size_toArray]
    show 0 + us.length ≤ _
    omega
/-- sorted of what can be collected -/
theorem sortedC {t : Addr} {us : List Value} {ltv : Value → Value → Bool} {Q : Value → Shared → Prop} (O : SrtO.Swo ltv) (hz : us.length ≤ sizeLine)
    (col : ∀ (A : Around) (E : Value → Shared → Prop) (R : List Value → Shared → Prop), R us { s with heap := colHeap s.heap us } → wpAny (model prog w) A (collect (.ref t)) R E s)
    (hS : 2 ≤ us.length → ∀ (g : Heap) (a : Addr), g.get? a = some (seqObj "list" us.toArray 0) → (∀ b o, s.heap.get? b = some o → b ≠ a ∧ g.get? b = some o) → SrtO.SortableO prog w A.in1.in1 { s with heap := g } a us ltv)
    (q : ∀ out : List Value, SrtO.Srtd ltv out → SrtO.Stb ltv out us → Q (.ref (s.heap.objs.size + 1)) { s with heap := sortedAll s.heap us out.toArray }) :
    wpAny (model prog w) A (call (.builtin "sorted") [.ref t]) Q E s := by
  have sz : (colHeap s.heap us).objs.size = s.heap.objs.size + 1 := by
    unfold colHeap
    rw [Heap.size_update, Heap.size_push]
  have at1 : ((colHeap s.heap us).push (seqObj "list" us.toArray 0)).get? (s.heap.objs.size + 1) = some (seqObj "list" us.toArray 0) := by
    rw [← sz]; exact Heap.get?_push_size _ rfl
  have old : ∀ b o, s.heap.get? b = some o → b ≠ s.heap.objs.size + 1 ∧ ((colHeap s.heap us).push (seqObj "list" us.toArray 0)).get? b = some o := fun b o e => by
    have lt := Heap.lt_size e
    refine ⟨Nat.ne_of_lt (Nat.lt_succ_of_lt lt), Heap.get?_push_of_some _ ?_⟩
    unfold colHeap
    rw [Heap.get?_update_ne _ _ _ _ (Nat.ne_of_lt lt)]
    exact Heap.get?_push_of_some _ e
  refine Calls.call_function_entry kind_sorted plain_sorted entry_sorted (args_sorted1 _) ?_
  unfold Builtin.«sorted»
  refine wpAny_bind (m := checkCount "sorted" 1 1 _) (wpAny_pure (wpAny_bind (col _ _ _ (wpAny_bind (wpAny_newList ?_ hz)))))
  show wpAny (model prog w) A.in1 _ _ _ { s with heap := (colHeap s.heap us).push (seqObj "list" us.toArray 0) }
  rw [sz]
  refine wpAny_bind (wpAny_holding (wpAny_call_entry slot_list_sort ⟨_, at1, rfl⟩ entry_list_sort (SrtO.list_sort_ord O at1 hz (fun h2 => hS h2 _ _ at1 old) fun out h1 h2 => ⟨_, rfl, ?_⟩) (args_list_sort _)))
  exact wpAny_pure ⟨_, rfl, q out h1 h2⟩
end
end DL

set_option Elab.async false
set_option linter.all false
set_option maxRecDepth 100000
/-! built-in functions, subscripts, methods of lists, calls of defs -/
namespace DL
open PySem PySem.Spec PyProof.Rows L2

/-! ### sorting -/
theorem sortI_perm (l : List Int) : (sortI l).Perm l := List.mergeSort_perm l _
theorem sortI_pw (l : List Int) : (sortI l).Pairwise (· ≤ ·) := by
  have h := List.pairwise_mergeSort (le := fun a b : Int => decide (a ≤ b)) (fun a b c h1 h2 => by simp only [decide_eq_true_eq] at *; omega) (fun a b => by simp only [Bool.or_eq_true, decide_eq_true_eq]; omega) l
  exact h.imp fun h => of_decide_eq_true h
theorem sortI_eq {l m : List Int} (p : m.Perm l) (h : m.Pairwise (· ≤ ·)) : m = sortI l :=
  List.Perm.eq_of_pairwise (fun a b _ _ h1 h2 => by omega) h (sortI_pw l) (p.trans (sortI_perm l).symm)
theorem leP_iff {p q : Int × Int} : leP p q = true ↔ p.1 < q.1 ∨ (p.1 = q.1 ∧ p.2 ≤ q.2) := by unfold leP; simp
theorem sortP_perm (l : List (Int × Int)) : (sortP l).Perm l := List.mergeSort_perm l _
theorem sortP_pw (l : List (Int × Int)) : (sortP l).Pairwise fun p q => leP p q = true :=
  List.pairwise_mergeSort (le := leP) (fun a b c h1 h2 => by rw [leP_iff] at *; omega) (fun a b => by rw [Bool.or_eq_true, leP_iff, leP_iff]; omega) l
theorem sortP_eq {l m : List (Int × Int)} (p : m.Perm l) (h : m.Pairwise fun p q => leP p q = true) : m = sortP l :=
  List.Perm.eq_of_pairwise (le := fun p q => leP p q = true) (fun a b _ _ h1 h2 => by
    rw [leP_iff] at *
    exact Prod.ext (by omega) (by omega)) h (sortP_pw l) (p.trans (sortP_perm l).symm)
/-- a pair of ints as a value -/
def kP (K : PySem.W.Frag) (H : Hp) (v : V) (p : Int × Int) : Prop := ∃ t, v = V.ref t ∧ SqT K H t [.int p.1, .int p.2]
/-- sorted(xs), a list or a tuple of ints, or of pairs of ints -/
def rSrt (K : PySem.W.Frag) : List V → Hp → VK → Prop := fun vs H Q => ∃ (a : Addr) (xs : List V), vs = [V.ref a] ∧ (SqL K H a xs ∨ SqT K H a xs) ∧
  ((∃ ns, xs = ns.map V.int ∧ ∀ p, H p = none → Q (.ref p) (upd H p (.lst ((sortI ns).map V.int)))) ∨
    ∃ ps : List (Int × Int), Paired (kP K H) xs ps ∧ ∀ ys p, Paired (kP K H) ys (sortP ps) → H p = none → Q (.ref p) (upd H p (.lst ys)))
/-- the pair that an object holds -/
def kH (g : Heap) (u : Value) : Int × Int := match u with
  | .ref a => match g.get? a with
    | some o => match o.data with
      | .seq z _ => match z.toList with
        | [.int x _, .int y _] => (x, y)
        | _ => (0, 0)
      | _ => (0, 0)
    | none => (0, 0)
  | _ => (0, 0)
theorem kH_of {g : Heap} {u : Value} {x y : Int} (h : Srt.IsPair g u x y) : kH g u = (x, y) := by
  obtain ⟨a, o, t1, t2, n, rfl, h1, h2, h3⟩ := h
  simp only [kH, h1, h3]
theorem cr_srt {X : Cx} : CallR X (.builtin "sorted") (rSrt X.K) := by
  intro pins s σ H vs us Q I r h
  obtain ⟨a, xs, rfl, hs, h⟩ := h
  obtain ⟨its, rv, hz, col⟩ : ∃ its : List Value, Vals xs its ∧ its.length ≤ sizeLine ∧ ∀ (A : Around) (E : Value → Shared → Prop) (R : List Value → Shared → Prop), R its { s with heap := colHeap s.heap its } → wpAny (model X.prog X.w) A (collect (.ref a)) R E s := by
    rcases hs with hs | hs
    · obtain ⟨its, rv, hl, hz⟩ := I.list hs
      have hz' : its.length ≤ sizeLine := by rw [← rv.length]; exact hz
      exact ⟨its, rv, hz', fun A E R q => collect_list hl.isList q hz'⟩
    · obtain ⟨its, rv, hl, hz⟩ := I.tuple hs
      have hz' : its.length ≤ sizeLine := by rw [← rv.length]; exact hz
      exact ⟨its, rv, hz', fun A E R q => collectT hl hz' q⟩
  rw [Vals.ref1 r]
  have sz : xs.length ≤ sizeLine := by rw [rv.length]; exact hz
  rcases h with ⟨ns, rfl, q⟩ | ⟨ps, hx, q⟩
  · have hi := rv.ints
    refine sortedC SrtO.swo_int hz col (fun h2 _ _ _ _ => SrtO.ints_sortable hi h2) fun out h1 h2 => ?_
    obtain ⟨k1, k2, k3⟩ := SrtO.ints_out hi h1 h2
    obtain ⟨ep, he⟩ := sortedAll_at s.heap its out.toArray
    have e := sortI_eq k2 k3
    rw [← e] at q
    refine ⟨.ref (s.heap.objs.size + 1), _, I.laid (t' := s.toks) (o := .lst ((out.map SrtO.iv).map V.int)) (fun _ _ => sortedAll_old) (Nat.le_succ _) ⟨?_, out, ep, vals_of_ints k1, he⟩, rfl, q _ (I.hok.fresh (Nat.le_succ _))⟩
    rw [List.length_map, k2.length_eq]
    rw [List.length_map] at sz
    exact sz
  · -- each value is a pair of the heap
    have all : ∀ {xs : List V} {us : List Value} {ps : List (Int × Int)}, Vals xs us → Paired (kP X.K H) xs ps → us.map (kH s.heap) = ps ∧ ∀ u ∈ us, Srt.IsPair s.heap u (kH s.heap u).1 (kH s.heap u).2 ∧ kP X.K H (backV u) (kH s.heap u) ∧ ∃ b, u = Value.ref b := by
      intro xs us ps rv hx
      induction hx generalizing us with
      | nil => cases rv; exact ⟨rfl, fun u h => by cases h⟩
      | cons r t ih =>
        cases rv with
        | cons r1 r2 =>
          obtain ⟨e1, e2⟩ := ih r2
          obtain ⟨b, rfl, hb⟩ := r
          cases r1
          obtain ⟨its2, rr, ⟨o, ho, hc, n, hd⟩, _⟩ := I.tuple hb
          obtain ⟨u1, u2, rfl, ⟨t1, rfl⟩, ⟨t2, rfl⟩⟩ := Vals.two rr
          have ip : Srt.IsPair s.heap (.ref b) _ _ := ⟨b, o, t1, t2, n, rfl, ho, hc, hd⟩
          have ek := kH_of ip
          refine ⟨by rw [List.map_cons, e1, ek], fun u hu => ?_⟩
          rcases List.mem_cons.mp hu with e | hu
          · subst e; rw [ek]; exact ⟨ip, ⟨b, rfl, hb⟩, b, rfl⟩
          · exact e2 u hu
    obtain ⟨e1, e2⟩ := all rv hx
    refine sortedC (SrtO.swo_lex (kH s.heap)) hz col (fun h2 g b hb old => ?_) fun out h1 h2 => ?_
    · refine SrtO.pairs_sortableO (s := { s with heap := g }) (by omega) (fun v hm => (e2 v hm).1.keeps fun b o e _ => (old b o e).2) fun o e => ?_
      have e' : some o = some (seqObj "list" its.toArray 0) := e.symm.trans hb
      cases e'
      intro c
      exact absurd (Value.type.inj c) (by decide)
    · have h3 : ∀ u ∈ out, u ∈ its := fun u hu => h2.perm.mem_iff.mp hu
      obtain ⟨ep, he⟩ := sortedAll_at s.heap its out.toArray
      have es : out.map (kH s.heap) = sortP ps := by
        refine sortP_eq (by rw [← e1]; exact h2.perm.map _) ?_
        refine List.pairwise_map.mpr (h1.imp fun {x y} h => ?_)
        have h := SrtO.lexB_no.mp h
        rw [leP_iff]
        omega
      have pr : ∀ us : List Value, (∀ u ∈ us, u ∈ its) → Paired (kP X.K H) (us.map backV) (us.map (kH s.heap)) := by
        intro us
        induction us with
        | nil => intro _; exact .nil
        | cons u r ih => intro h; exact .cons (e2 u (h u List.mem_cons_self)).2.1 (ih fun v hv => h v (List.mem_cons_of_mem _ hv))
      refine ⟨.ref (s.heap.objs.size + 1), _, I.laid (t' := s.toks) (o := .lst (out.map backV)) (fun _ _ => sortedAll_old) (Nat.le_succ _) ⟨?_, out, ep, vals_back fun u hu => (e2 u (h3 u hu)).2.2, he⟩, rfl, q _ _ (by rw [← es]; exact pr out h3) (I.hok.fresh (Nat.le_succ _))⟩
      rw [List.length_map, h2.perm.length_eq]
      exact hz

/-! ### built-in functions by values -/
def DBi (L : Lk) (r : List V → Hp → VK → Prop) (rd : List D → AH → QE → Prop) : Prop := ∀ ds vs A N H Q Qd, RVs L.K A N H ds vs → RA L A N H → rd ds A Qd → Kt L A N H Qd Q → r vs H Q
theorem CallR.bor {X : Cx} {f : Value} {r r' : List V → Hp → VK → Prop} (h : CallR X f r) (h' : CallR X f r') : CallR X f (fun xs H Q => r xs H Q ∨ r' xs H Q) := by
  intro pins s σ H xs us Q I rr q
  rcases q with q | q
  · exact h pins s σ H xs us Q I rr q
  · exact h' pins s σ H xs us Q I rr q
section
variable {L : Lk} {G : Gm} {n : Nat} {X : Cx} {a b c e : Expr} {es : List Expr} {ia ib ic ie : IE} {ies : List IE} {pos p : Pos} {x : Str}
theorem de_bi {id : String} {r : List V → Hp → VK → Prop} {k : BI} (hc : X.calm = true → CallR X (.builtin id) r) (hr : X.K = L.K → DBi L r (dBi k)) (hg : Gl X x) (hm : X.mg x = none) (hv : bootBuiltins x = some (.builtin id)) (ha : DA L G n X (e :: es) ies)
    (hn : x ≠ "__name__") (hdb : (x == ("__debug__" : Str)) = false) (he : starEach (e :: es) X.env = (false, eval e X.env) :: starEach es X.env) (hpl : (backTo pos (starEach es X.env)).any (·.1) = false) : DE L G n X (.Call (.Name x p) (e :: es) [] pos) (.bi k ies) := fun C W tk =>
  pe_imp (pe_callB (hc C.calm) hg hm hv (ha C W tk) hn hdb he hpl) fun σ H Q ⟨N, δ, A, Qd, Ed, rs, ra, h, hq, hx⟩ =>
    LAs.use rs ra h (fun ds A1 vs H1 rv1 ra1 ex1 rs1 q1 => hr C.K ds vs A1 N H1 Q Qd rv1 ra1 q1 fun d A' v' H' r1 r2 e q => hq d A' v' H' r1 r2 (ex1.trans e) q) hx
theorem de_biT {T : String} {r : List V → Hp → VK → Prop} {k : BI} (hc : X.calm = true → CallR X (.type T) r) (hr : X.K = L.K → DBi L r (dBi k)) (hg : Gl X x) (hm : X.mg x = none) (hv : bootBuiltins x = some (.type T)) (ha : DA L G n X (e :: es) ies)
    (hn : x ≠ "__name__") (hdb : (x == ("__debug__" : Str)) = false) (he : starEach (e :: es) X.env = (false, eval e X.env) :: starEach es X.env) (hpl : (backTo pos (starEach es X.env)).any (·.1) = false) : DE L G n X (.Call (.Name x p) (e :: es) [] pos) (.bi k ies) := fun C W tk =>
  pe_imp (pe_callTy (hc C.calm) hg hm hv (ha C W tk) hn hdb he hpl) fun σ H Q ⟨N, δ, A, Qd, Ed, rs, ra, h, hq, hx⟩ =>
    LAs.use rs ra h (fun ds A1 vs H1 rv1 ra1 ex1 rs1 q1 => hr C.K ds vs A1 N H1 Q Qd rv1 ra1 q1 fun d A' v' H' r1 r2 e q => hq d A' v' H' r1 r2 (ex1.trans e) q) hx
end
theorem rvs1 {K : PySem.W.Frag} {A : AH} {N : Addr → Prop} {H : Hp} {d : D} {vs : List V} (h : RVs K A N H [d] vs) : ∃ v, vs = [v] ∧ RV K A N H d v := by
  obtain ⟨v, r, rfl, h1, h2⟩ := h.cons'
  rw [h2.nil']; exact ⟨v, rfl, h1⟩
theorem rvs2 {K : PySem.W.Frag} {A : AH} {N : Addr → Prop} {H : Hp} {d d' : D} {vs : List V} (h : RVs K A N H [d, d'] vs) : ∃ v v', vs = [v, v'] ∧ RV K A N H d v ∧ RV K A N H d' v' := by
  obtain ⟨v, r, rfl, h1, h2⟩ := h.cons'
  obtain ⟨v', rfl, h3⟩ := rvs1 h2
  exact ⟨v, v', rfl, h1, h3⟩
def rLen (K : PySem.W.Frag) : List V → Hp → VK → Prop := fun xs H Q => (∃ p ys, xs = [.ref p] ∧ (SqL K H p ys ∨ SqT K H p ys) ∧ Q (.int ys.length) H) ∨ ∃ z, xs = [.str z] ∧ z.length ≤ sizeLine ∧ Q (.int z.length) H
theorem cr_len {X : Cx} : CallR X (.builtin "len") (rLen X.K) := CallR.bor call_len_seq call_len_str
theorem db_len {L : Lk} : DBi L (rLen L.K) (dBi .len) := by
  intro ds vs A N H Q Qd rv ra h k
  match ds, rv, h with
  | [d], rv, h =>
    obtain ⟨v, rfl, r⟩ := rvs1 rv
    have seq : ∀ xs, seqD A d = some xs → Qd (.int xs.length) A → rLen L.K [v] H Q := fun xs e q => by
      obtain ⟨p, ws, rfl, h1, h2⟩ := seqD_rv e ra r
      exact .inl ⟨p, ws, rfl, h1, by rw [← h2.length]; exact k.int ra q⟩
    cases d with
    | str z => exact .inr ⟨z, by rw [rv_str.mp r], h.1, k.int ra h.2⟩
    | tup xs => exact seq xs rfl h
    | rol xs => exact seq xs rfl h
    | fl xs => exact seq xs rfl h
    | rod _ _ => exact (show False from h).elim
    | ptp xs => exact seq xs rfl h
    | ref b =>
      have h : (match seqD A (.ref b) with | some xs => Qd (.int xs.length) A | none => False) := h
      split at h
      · next xs e => exact seq xs e h
      · exact h.elim
    | non => exact (show False from h).elim
    | bl _ => exact (show False from h).elim
    | int _ => exact (show False from h).elim
  | [], _, h => exact (show False from h).elim
  | d :: _ :: _, _, h => cases d <;> exact (show False from h).elim
theorem db_sum {L : Lk} : DBi L (rSum L.K) (dBi .sum) := by
  intro ds vs A N H Q Qd rv ra h k
  match ds, rv, h with
  | [d], rv, h =>
    obtain ⟨v, rfl, r⟩ := rvs1 rv
    have h : (match lstD A d with | some xs => (match alls int1 xs with | some ns => Qd (.int ns.sum) A | none => False) | none => False) := h
    split at h
    · next xs e =>
      split at h
      · next ns e2 =>
        obtain ⟨b, ws, rfl, h1, h2⟩ := lstD_rv e ra r
        rw [alls_int e2] at h2
        rw [h2.ints] at h1
        exact ⟨b, ns, rfl, h1, k.int ra h⟩
      · exact h.elim
    · exact h.elim
  | [], _, h => exact (show False from h).elim
  | d :: _ :: _, _, h => exact (show False from h).elim
theorem db_any {L : Lk} : DBi L (rAny L.K) (dBi .any) := by
  intro ds vs A N H Q Qd rv ra h k
  match ds, rv, h with
  | [d], rv, h =>
    obtain ⟨v, rfl, r⟩ := rvs1 rv
    have h : (match lstD A d with | some xs => (match alls bl1 xs with | some ns => Qd (.bl (ns.any id)) A | none => False) | none => False) := h
    split at h
    · next xs e =>
      split at h
      · next ns e2 =>
        obtain ⟨b, ws, rfl, h1, h2⟩ := lstD_rv e ra r
        rw [alls_bl e2] at h2
        rw [h2.bls] at h1
        exact ⟨b, ns, rfl, h1, k.bl ra h⟩
      · exact h.elim
    · exact h.elim
  | [], _, h => exact (show False from h).elim
  | d :: _ :: _, _, h => exact (show False from h).elim
def rTupOf (K : PySem.W.Frag) : List V → Hp → VK → Prop := fun xs H Q => ∃ p ys, xs = [.ref p] ∧ ((SqL K H p ys ∧ ∀ l, H l = none → Q (.ref l) (upd H l (.tup ys))) ∨ (SqT K H p ys ∧ Q (.ref p) H))
theorem db_tuple {L : Lk} : DBi L (rTupOf L.K) (dBi .tuple) := by
  intro ds vs A N H Q Qd rv ra h k
  match ds, rv, h with
  | [d], rv, h =>
    obtain ⟨v, rfl, r⟩ := rvs1 rv
    have h : (match seqD A d with | some xs => Qd (.tup xs) A | none => False) := h
    split at h
    · next xs e =>
      obtain ⟨p, ws, rfl, h1, h2⟩ := seqD_rv e ra r
      rcases h1 with h1 | h1
      · exact ⟨p, ws, rfl, .inl ⟨h1, k.tup ra h2 h⟩⟩
      · exact ⟨p, ws, rfl, .inr ⟨h1, k.here ra (rv_tup.mpr ⟨p, ws, rfl, h1, h2⟩) h⟩⟩
    · exact h.elim
  | [], _, h => exact (show False from h).elim
  | _ :: _ :: _, _, h => exact (show False from h).elim
def rLstOf (K : PySem.W.Frag) : List V → Hp → VK → Prop := fun xs H Q => ∃ p ys, xs = [.ref p] ∧ (SqL K H p ys ∨ SqT K H p ys) ∧ ∀ l, H l = none → Q (.ref l) (upd H l (.lst ys))
def rInt1 : List V → Hp → VK → Prop := fun xs H Q => (∃ i, xs = [.int i] ∧ Q (.int i) H) ∨ ∃ k, xs = [.bl k] ∧ Q (.int (if k then 1 else 0)) H
def rStr1 : List V → Hp → VK → Prop := fun xs H Q => ∃ i : Int, xs = [.int i] ∧ i.natAbs.log2 < 1920 ∧ Q (.str (toString i)) H
def rMin2 : List V → Hp → VK → Prop := fun xs H Q => ∃ i j : Int, xs = [.int i, .int j] ∧ Q (.int (if j < i then j else i)) H
theorem db_min2 {L : Lk} : DBi L rMin2 (dBi .min2) := by
  intro ds vs A N H Q Qd rv ra h k
  match ds, rv, h with
  | [d, d'], rv, h =>
    obtain ⟨v, v', rfl, r, r'⟩ := rvs2 rv
    cases d with
    | int i =>
      cases d' with
      | int j => exact ⟨i, j, by rw [rv_int.mp r, rv_int.mp r'], k.int ra h⟩
      | _ => exact (show False from h).elim
    | _ => cases d' <;> exact (show False from h).elim
  | [], _, h => exact (show False from h).elim
  | [d], _, h => cases d <;> exact (show False from h).elim
  | d :: d' :: _ :: _, _, h => cases d <;> cases d' <;> exact (show False from h).elim
def rMax2 : List V → Hp → VK → Prop := fun xs H Q => ∃ i j : Int, xs = [.int i, .int j] ∧ Q (.int (if j > i then j else i)) H
theorem db_max2 {L : Lk} : DBi L rMax2 (dBi .max2) := by
  intro ds vs A N H Q Qd rv ra h k
  match ds, rv, h with
  | [d, d'], rv, h =>
    obtain ⟨v, v', rfl, r, r'⟩ := rvs2 rv
    cases d with
    | int i =>
      cases d' with
      | int j => exact ⟨i, j, by rw [rv_int.mp r, rv_int.mp r'], k.int ra h⟩
      | _ => exact (show False from h).elim
    | _ => cases d' <;> exact (show False from h).elim
  | [], _, h => exact (show False from h).elim
  | [d], _, h => cases d <;> exact (show False from h).elim
  | d :: d' :: _ :: _, _, h => cases d <;> cases d' <;> exact (show False from h).elim
theorem prs_of {K : PySem.W.Frag} {A : AH} {N : Addr → Prop} {H : Hp} : ∀ {ps : List (Int × Int)} {ws : List V}, RVs K A N H (ps.map prD) ws → Paired (kP K H) ws ps
  | [], _, r => by rw [r.nil']; exact .nil
  | p :: ps, _, r => by
    obtain ⟨v, vr, rfl, r1, r2⟩ := RVs.cons' r
    obtain ⟨a, vs, rfl, h1, h2⟩ := rv_tup.mp r1
    obtain ⟨v1, v2, rfl, h3, h4⟩ := rvs2 h2
    rw [rv_int.mp h3, rv_int.mp h4] at h1
    exact .cons ⟨a, rfl, h1⟩ (prs_of r2)
theorem of_prs {K : PySem.W.Frag} {A : AH} {N : Addr → Prop} {H : Hp} : ∀ {ps : List (Int × Int)} {ws : List V}, Paired (kP K H) ws ps → RVs K A N H (ps.map prD) ws
  | _, _, .nil => .nil
  | _, _, .cons ⟨a, e, h⟩ t => .cons (rv_tup.mpr ⟨a, _, e, h, .cons (rv_int.mpr rfl) (.cons (rv_int.mpr rfl) .nil)⟩) (of_prs t)
theorem db_sorted {L : Lk} : DBi L (fun vs H Q => rSrt L.K vs H Q) (dBi .sorted) := by
  intro ds vs A N H Q Qd rv ra h k
  match ds, rv, h with
  | [d], rv, h =>
    obtain ⟨v, rfl, r⟩ := rvs1 rv
    have h : dSort d A Qd := h
    unfold dSort at h
    split at h
    · next xs e =>
      obtain ⟨p, ws, rfl, h1, h2⟩ := seqD_rv e ra r
      split at h
      · next ns e2 =>
        rw [alls_int e2] at h2
        exact ⟨p, ws, rfl, h1, .inl ⟨ns, h2.ints, k.lst ra (RVs.of_ints _) h⟩⟩
      · split at h
        · next ps e2 =>
          rw [alls_pr e2] at h2
          exact ⟨p, ws, rfl, h1, .inr ⟨ps, prs_of h2, fun ys q hp np => k.lst ra (of_prs hp) h q np⟩⟩
        · exact h.elim
    · exact h.elim
  | [], _, h => exact (show False from h).elim
  | _ :: _ :: _, _, h => exact (show False from h).elim
end DL

set_option Elab.async false
set_option linter.all false
set_option maxRecDepth 100000
namespace DL
open PySem PySem.Spec PyProof.Rows L2
section
variable {L : Lk} {G : Gm} {n : Nat} {X : Cx} {a b c e : Expr} {es : List Expr} {ia ib ic ie : IE} {ies : List IE} {pos p p2 : Pos} {x : Str}

/-! ### isinstance -/
def tkN : TyK → String | .int => "int" | .bool => "bool" | .tuple => "tuple" | .list => "list" | .str => "str"
/-! ### list(range(..)), tuple(range(..)) -/
theorem rvs_rg {K : PySem.W.Frag} {A : AH} {N : Addr → Prop} {H : Hp} (i j : Int) : RVs K A N H (rgD i j) (rgV i j) := by
  have h : ∀ l : List Nat, RVs K A N H (l.map fun k => D.int (i + (k : Nat))) (l.map fun k => V.int (i + (k : Nat))) := by
    intro l
    induction l with
    | nil => exact .nil
    | cons x r ih => exact .cons (rv_int.mpr rfl) ih
  exact h _
/-- a range as an argument -/
def LRg (L : Lk) (W : WX) (w : WA) : L2.St → Hp → (Int → Int → Hp → Prop) → Prop := fun σ H R => ∃ (N : Addr → Prop) (δ : DSt) (A : AH) (Rd : Int → Int → AH → Prop) (Ed : XQ), RS L.K A N H δ σ ∧ RA L A N H ∧ w δ A (fun ds A1 => rgC ds fun i j => Rd i j A1) Ed ∧
  (∀ i j A' H', RA L A' N H' → Ext A H A' H' → Rd i j A' → R i j H') ∧ ∀ x A' H', RA L A' N H' → Ext A H A' H' → Ed x A' → W (L.XV x) none σ H'
def DRg (L : Lk) (G : Gm) (n : Nat) (X : Cx) (e : Expr) (ies : List IE) : Prop := Cn L G n X → ∀ W, Takes X W → PRg X e (LRg L W (wpEs (callN G n) G ies))
theorem drg_2 (hg : Gl X "range") (hm : X.mg "range" = none) (ha : DE L G n X a ia) (hb : DE L G n X b ib) (na : starEach [a, b] X.env = (false, eval a X.env) :: starEach [b] X.env) (nb : starEach [b] X.env = (false, eval b X.env) :: starEach [] X.env)
    (hp : (backTo pos (starEach [b] X.env)).any (·.1) = false) : DRg L G n X (.Call (.Name "range" p) [a, b] [] pos) [ia, ib] := fun C W tk => by
  intro pins s σ H Q I h
  obtain ⟨N, δ, A, Rd, Ed, rs, ra, h, hq, hx⟩ := h
  refine prg_2 (pos := pos) (p := p) hg hm (ha C W tk) (hb C W tk) na nb hp pins s σ H Q I (LE.use rs ra h (fun d A1 v1 H1 rv1 ra1 ex1 rs1 q1 => LE.use rs1 ra1 q1 (fun d2 A2 v2 H2 rv2 ra2 ex2 rs2 q2 => ?_) (XW.ext hx ex1)) hx)
  have rv1' := RV.stay (ex2.stay ra1) _ _ rv1
  cases d with
  | int i =>
    cases d2 with
    | int j => exact ⟨i, j, rv_int.mp rv1', rv_int.mp rv2, hq i j A2 H2 ra2 (ex1.trans ex2) q2⟩
    | _ => exact (show False from q2).elim
  | _ => cases d2 <;> exact (show False from q2).elim
theorem de_lrg (hg : Gl X "list") (hm : X.mg "list" = none) (he : DRg L G n X e ies) (na : starEach [e] X.env = (false, eval e X.env) :: starEach [] X.env) : DE L G n X (.Call (.Name "list" p) [e] [] pos) (.rgl false ies) := fun C W tk =>
  pe_imp (pe_listRg C.calm hg hm (he C W tk) na) fun σ H Q ⟨N, δ, A, Qd, Ed, rs, ra, h, hq, hx⟩ =>
    ⟨N, δ, A, fun i j A1 => RgOk i j ∧ (if false = true then Qd (.tup (rgD i j)) A1 else newL A1 (rgD i j) Qd), Ed, rs, ra, h, fun i j A1 H1 ra1 ex1 q1 => ⟨q1.1, by
      have q := q1.2
      rw [if_neg Bool.false_ne_true] at q
      exact Kt.lst (fun d A' v' H' r1 r2 e q => hq d A' v' H' r1 r2 (ex1.trans e) q) ra1 (rvs_rg i j) q⟩, hx⟩
/-! ### subscripts, slices -/
theorem RVs.atI {K : PySem.W.Frag} {A : AH} {N : Addr → Prop} {H : Hp} {ds : List D} {vs : List V} {i : Int} {d : D} (r : RVs K A N H ds vs) (h : atI ds i = some d) : ∃ v, L2.atI vs i = some v ∧ RV K A N H d v := by
  unfold L2.atI at *
  rw [← r.length]
  cases e : ixN ds.length i with
  | none => rw [e] at h; cases h
  | some j =>
    rw [e] at h
    exact RVs.get r h
def rIxD : R2 := fun x y H Q => ∃ a ws k v, x = .ref a ∧ y = kV k ∧ Rd H a (.dK ws) ∧ valV ws k = some v ∧ Q v H
theorem ix_dict (hu : X.A.units + 1 < cLine) : IxR X rIxD := by
  intro value slice pins s σ H x y v u Q I rx ry h hs
  obtain ⟨a, ws, k, d, rfl, rfl, h1, h2, q⟩ := h
  cases rx
  have g : DGet H a (kV k) (some d) := .inl ⟨ws, k, h1, rfl, h2.symm⟩
  have hT := dict_typeIs I g
  unfold subscriptTail
  refine wpAny_bind ?_
  rw [getitemInPython_of_ne hT.not_modules]
  refine wpAny_bind (wpAny_specialOf hT PySem.F.slot_dict_getitem.lookup ?_)
  have fin : wpAny (model X.prog X.w) X.A (subscripted slice false (.ref a) u) (fun r s₃ => wpAny (model X.prog X.w) X.A (letTemporaryGo value (.ref a) r >>= fun _ => pure r) (EP X pins σ Q) X.xe s₃) X.xe s := by
    rw [hs]
    exact wpAny_operating (d_getItem hu I g ry fun w' s3 I3 rw' => wpAny_bind (wpAny_letTemporaryGo (wpAny_pure ⟨d, H, I3, rw', q⟩)))
  first
    | exact wpAny_pure (wpAny_bind fin)
    | exact wpAny_bind (wpAny_pure (wpAny_bind fin))
    | exact wpAny_bind fin
theorem ix_all (hu : X.A.units + 1 < cLine) : IxR X (fun x y H Q => rIx X.K x y H Q ∨ rIxD x y H Q) := by
  intro value slice pins s σ H x y v u Q I rx ry h hs
  rcases h with h | h
  · exact ix_seq value slice pins s σ H x y v u Q I rx ry h hs
  · exact ix_dict hu value slice pins s σ H x y v u Q I rx ry h hs
theorem RKs.get {A : AH} {N : Addr → Prop} {H : Hp} {kvs : List (Key × D)} {ws : List (Key × V)} {k : Key} {d : D} (h : RKs L.K A N H kvs ws) (e : valD kvs k = some d) : ∃ v, valV ws k = some v ∧ RV L.K A N H d v := by
  have := h.val k
  rw [e] at this
  cases q : valV ws k with
  | none => rw [q] at this; exact this.elim
  | some v => rw [q] at this; exact ⟨v, rfl, this⟩
theorem dop_ix {L : Lk} : DOp L (fun x y H Q => rIx L.K x y H Q ∨ rIxD x y H Q) dIx := by
  intro x y v u A N H Q Qd rx ry ra h k
  have dict : ∀ (ky : Key), RV L.K A N H y u → (u = kV ky) → (match dicD A x with | some kvs => (match valD kvs ky with | some d => Qd d A | none => False) | none => False) → rIxD v u H Q := fun ky _ eu h => by
    split at h
    · next kvs e =>
      split at h
      · next d e2 =>
        obtain ⟨a, ws, rfl, h1, h2⟩ := dicD_rv e ra rx
        obtain ⟨w, h3, h4⟩ := h2.get e2
        exact ⟨a, ws, ky, w, rfl, eu, h1, h3, k.here ra h4 h⟩
      · exact h.elim
    · exact h.elim
  cases y with
  | int i =>
    simp only [dIx] at h
    split at h
    · next xs e =>
      obtain ⟨q, vs, rfl, h1, h2⟩ := seqD_rv e ra rx
      split at h
      · next d e2 =>
        obtain ⟨w, h3, h4⟩ := RVs.atI h2 e2
        rcases h1 with h1 | h1
        · exact .inl (.inl ⟨q, vs, i, w, rfl, rv_int.mp ry, h1, h3, k.here ra h4 h⟩)
        · exact .inl (.inr (.inl ⟨q, vs, i, w, rfl, rv_int.mp ry, h1, h3, k.here ra h4 h⟩))
      · exact h.elim
    · cases x with
      | str z =>
        obtain ⟨hz, h⟩ := h
        split at h
        · next c e2 => exact .inl (.inr (.inr ⟨z, i, c, rv_str.mp rx, rv_int.mp ry, hz, e2, k.str ra h⟩))
        · exact h.elim
      | ref a => exact .inr (dict (.inl i) ry (rv_int.mp ry) h)
      | rod ks xs => exact .inr (dict (.inl i) ry (rv_int.mp ry) h)
      | _ => exact (show False from h).elim
  | str z => exact .inr (dict (.inr z) ry (rv_str.mp ry) h)
  | _ => exact (show False from h).elim
theorem de_ix (ha : DE L G n X a ia) (hb : DE L G n X b ib) (hs : PlainIx b) : DE L G n X (.Subscript a b pos) (.ix ia ib) := fun C W tk =>
  pe_imp (pe_ix (ix_all (hu_of C.room)) (ha C W tk) (hb C W tk) hs) fun σ H Q ⟨N, δ, A, Qd, Ed, rs, ra, h, hq, hx⟩ =>
    LE.use rs ra h (fun x A1 v1 H1 rv1 ra1 ex1 rs1 q1 => LE.use rs1 ra1 q1 (fun y A2 v2 H2 rv2 ra2 ex2 rs2 q2 => by
      rw [C.K]
      exact dop_ix x y v1 v2 A2 N H2 Q Qd (RV.stay (ex2.stay ra1) _ _ rv1) rv2 ra2 q2 fun d A' v' H' r1 r2 e q => hq d A' v' H' r1 r2 ((ex1.trans ex2).trans e) q) (XW.ext hx ex1)) hx
/-- an optional part of a slice -/
abbrev WO := DSt → AH → (Option Int → AH → Prop) → XQ → Prop
def LO (L : Lk) (W : WX) (w : WO) : TO := fun σ H Q => ∃ (N : Addr → Prop) (δ : DSt) (A : AH) (Qd : Option Int → AH → Prop) (Ed : XQ), RS L.K A N H δ σ ∧ RA L A N H ∧ w δ A Qd Ed ∧
  (∀ o A' H', RA L A' N H' → Ext A H A' H' → Qd o A' → Q o H') ∧ ∀ x A' H', RA L A' N H' → Ext A H A' H' → Ed x A' → W (L.XV x) none σ H'
def DO (L : Lk) (G : Gm) (n : Nat) (X : Cx) (e : Option Expr) (i : Option IE) : Prop := Cn L G n X → ∀ W, Takes X W → PO X e (LO L W (wpO (callN G n) G i))
theorem po_imp {e : Option Expr} {t t' : TO} (h : PO X e t) (k : ∀ σ H Q, t' σ H Q → t σ H Q) : PO X e t' := ⟨fun pins s σ H Q I q => h.run pins s σ H Q I (k σ H Q q)⟩
theorem do_none : DO L G n X none none := fun C W tk => po_imp po_none fun σ H Q ⟨N, δ, A, Qd, Ed, rs, ra, h, hq, hx⟩ => hq none A H ra (Ext.refl _ _) h
theorem do_some (ha : DE L G n X a ia) : DO L G n X (some a) (some ia) := fun C W tk => po_imp (po_some (ha C W tk)) fun σ H Q ⟨N, δ, A, Qd, Ed, rs, ra, h, hq, hx⟩ =>
  LE.use rs ra h (fun d A1 v1 H1 rv1 ra1 ex1 rs1 q1 => by
    cases d with
    | int i => exact ⟨i, rv_int.mp rv1, hq _ A1 H1 ra1 ex1 q1⟩
    | _ => exact (show False from q1).elim) hx
theorem LO.use {W : WX} {w : WO} {N : Addr → Prop} {δ : DSt} {A : AH} {Ed : XQ} {σ : L2.St} {H : Hp} {Qd : Option Int → AH → Prop} {Q : Option Int → Hp → Prop} (rs : RS L.K A N H δ σ) (ra : RA L A N H) (h : w δ A Qd Ed) (hq : ∀ b A' H', RA L A' N H' → Ext A H A' H' → RS L.K A' N H' δ σ → Qd b A' → Q b H')
    (hx : ∀ x A' H', RA L A' N H' → Ext A H A' H' → Ed x A' → W (L.XV x) none σ H') : LO L W w σ H Q :=
  ⟨N, δ, A, Qd, Ed, rs, ra, h, fun b A' H' r2 x q => hq b A' H' r2 x (rs.stay (x.stay ra)) q, hx⟩
theorem RVs.cut {K : PySem.W.Frag} {A : AH} {N : Addr → Prop} {H : Hp} {ds : List D} {vs : List V} (r : RVs K A N H ds vs) (lo hi : Option Int) : RVs K A N H (cutL ds lo hi) (cutV vs lo hi) := by
  unfold cutL cutV
  rw [← r.length]
  exact (r.drop _).take _
def rCutA (K : PySem.W.Frag) : V → Option Int → Option Int → Hp → VK → Prop := fun x lo hi H Q => (rSlA K x lo hi H Q ∨ rSlL K x lo hi H Q) ∨ rSlS x lo hi H Q
theorem sl_cut : SlR X (rCutA X.K) := SlR.or (SlR.or sl_tupA sl_list) sl_str
theorem cutL_whole {α : Type} {xs : List α} {lo hi : Option Int} (h : HT.sIx xs.length 0 lo = 0 ∧ HT.sIx xs.length xs.length hi = xs.length) : cutL xs lo hi = xs := by
  unfold cutL
  rw [h.1, h.2, List.drop_zero, Nat.sub_zero, List.take_length]
theorem cut_rv {A : AH} {N : Addr → Prop} {H : Hp} {d : D} {v : V} {lo hi : Option Int} {Q : VK} {Qd : QE} (h : dCut d lo hi A Qd) (ra : RA L A N H) (r : RV L.K A N H d v) (k : Kt L A N H Qd Q) : rCutA L.K v lo hi H Q := by
  cases d with
  | tup xs =>
    have h : Qd (.tup (cutL xs lo hi)) A := h
    obtain ⟨q, vs, rfl, h1, h2⟩ := rv_tup.mp r
    refine .inl (.inl ⟨q, vs, rfl, h1, fun w => ?_, fun _ => k.tup ra (h2.cut lo hi) h⟩)
    rw [← h2.length] at w
    rw [cutL_whole w] at h
    exact k.here ra r h
  | rol xs =>
    have h : newL A (cutL xs lo hi) Qd := h
    obtain ⟨q, vs, rfl, h1, h2⟩ := rv_rol.mp r
    exact .inl (.inr ⟨q, vs, rfl, h1.seq, k.lst ra (h2.cut lo hi) h⟩)
  | fl xs =>
    have h : newL A (cutL xs lo hi) Qd := h
    obtain ⟨q, vs, rfl, h1, h2⟩ := rv_fl.mp r
    exact .inl (.inr ⟨q, vs, rfl, .inl h1.1, k.lst ra (h2.cut lo hi) h⟩)
  | ref q =>
    simp only [dCut] at h
    split at h
    · next xs e =>
      obtain ⟨vs, h1, h2⟩ := ra q _ e
      rw [rv_ref.mp r]
      exact .inl (.inr ⟨q, vs, rfl, SqL.of h1, k.lst ra (h2.cut lo hi) h⟩)
    · exact h.elim
  | str z => exact .inr ⟨z, rv_str.mp r, h.1, k.str ra h.2⟩
  | _ => exact (show False from h).elim
theorem de_cut {lo hi : Option Expr} {il ih : Option IE} (ha : DE L G n X a ia) (hl : DO L G n X lo il) (hh : DO L G n X hi ih) : DE L G n X (.Subscript a (.Slice lo hi none p2) pos) (.cut ia il ih) := fun C W tk =>
  pe_imp (pe_slice sl_cut (ha C W tk) (hl C W tk) (hh C W tk)) fun σ H Q ⟨N, δ, A, Qd, Ed, rs, ra, h, hq, hx⟩ =>
    LE.use rs ra h (fun x A1 v1 H1 rv1 ra1 ex1 rs1 q1 => LO.use rs1 ra1 q1 (fun lo A2 H2 ra2 ex2 rs2 q2 => LO.use rs2 ra2 q2 (fun hi A3 H3 ra3 ex3 rs3 q3 => by
      rw [C.K]
      exact cut_rv q3 ra3 (RV.stay (ex3.stay ra2) _ _ (RV.stay (ex2.stay ra1) _ _ rv1)) fun d A' v' H' r1 r2 e q => hq d A' v' H' r1 r2 (((ex1.trans ex2).trans ex3).trans e) q) (XW.ext hx (ex1.trans ex2))) (XW.ext hx ex1)) hx

/-! ### methods of lists -/
/-- a method of a list: its reading by values -/
def DBm (L : Lk) (r : V → List V → Hp → VK → Prop) (m : BM) : Prop := ∀ d ds v vs A N H Q Qd, RV L.K A N H d v → RVs L.K A N H ds vs → RA L A N H → dBm m d ds A Qd → Kt L A N H Qd Q → r v vs H Q
theorem dbm_append : DBm L rAppend .append := by
  intro d ds v vs A N H Q Qd rx rv ra h k
  unfold dBm at h
  split at h
  · next q x e1 =>
    split at h
    · next xs e =>
      obtain ⟨ws, h1, h2⟩ := ra q _ e
      obtain ⟨w, rfl, r⟩ := rvs1 rv
      rw [rv_ref.mp rx]
      exact ⟨q, ws, w, rfl, rfl, h1, by rw [← h2.length]; exact h.1, k.lput ra e (h2.snoc r) (rv_non.mpr rfl) h.2⟩
    · exact h.elim
  all_goals first | exact h.elim | contradiction
def rExtR : V → List V → Hp → VK → Prop := fun x vs H Q => ∃ l b xs zs, x = .ref l ∧ vs = [.ref b] ∧ H l = some (.lst xs) ∧ Rd H b (.lst zs) ∧ xs.length + zs.length ≤ sizeLine ∧ Q .non (upd H l (.lst (xs ++ zs)))
theorem mt_extR {X : Cx} : MtM X "list.extend" rExtR := by
  intro pins s σ H x vs v us Q I rx rv h
  obtain ⟨l, b, xs, zs, rfl, rfl, hH, hB, hz, q⟩ := h
  cases rx
  obtain ⟨u, rfl, ru⟩ := rv.one
  cases ru
  obtain ⟨z, its, n, r, hl, e⟩ := I.lstM hH
  obtain ⟨z2, its2, n2, r2, hl2, e2⟩ := Rd.lstM I hB
  have hsz : its.toArray.size + its2.toArray.size ≤ sizeLine := by rw [List.size_toArray, List.size_toArray]; omega
  have hlong : ¬ (!its.toArray.isEmpty && Builtin.List.listTooLong (its.toArray.size + its2.toArray.size)) = true := by
    rw [notLongL hsz, Bool.and_false]
    exact Bool.false_ne_true
  refine call_meets F.slot_list_extend ⟨_, e, rfl⟩ F.entry_list_extend (F.args_list_extend_2 _ _)
    (AutoSeq1.list_extend_list_list_0 l its.toArray n b its2.toArray n2 hlong (by rw [List.size_toArray]; omega) (by omega)) ⟨e, e2, ?_⟩
  refine ⟨.non, _, I.lset (its' := its ++ its2) hH e (by simp) (r.append r2) ?_, rfl, q⟩
  rw [List.length_append]
  omega
theorem dbm_extend : DBm L rExtR .extend := by
  intro d ds v vs A N H Q Qd rx rv ra h k
  unfold dBm at h
  split at h
  case h_2 q b e1 =>
    split at h
    · next xs ys e e2 =>
      obtain ⟨ws, h1, h2⟩ := ra q _ e
      obtain ⟨us, h3, h4⟩ := ra b _ e2
      obtain ⟨w, rfl, r⟩ := rvs1 rv
      rw [rv_ref.mp rx, rv_ref.mp r]
      exact ⟨q, b, ws, us, rfl, rfl, h1, .inl h3, by rw [← h2.length, ← h4.length]; exact h.1, k.lput ra e (h2.append h4) (rv_non.mpr rfl) h.2⟩
    · exact h.elim
  case h_5 q ys e1 =>
    split at h
    · next xs e =>
      obtain ⟨ws, h1, h2⟩ := ra q _ e
      obtain ⟨w, rfl, r⟩ := rvs1 rv
      obtain ⟨b, us, rfl, h3, h4⟩ := rv_fl.mp r
      rw [rv_ref.mp rx]
      exact ⟨q, b, ws, us, rfl, rfl, h1, h3.1, by rw [← h2.length, ← h4.length]; exact h.1, k.lput ra e (h2.append h4) (rv_non.mpr rfl) h.2⟩
    · exact h.elim
  all_goals first | exact h.elim | contradiction
theorem dbm_pop : DBm L rPop .pop := by
  intro d ds v vs A N H Q Qd rx rv ra h k
  unfold dBm at h
  split at h
  case h_3 q e1 =>
    split at h
    · next xs e =>
      split at h
      · next y ey =>
        obtain ⟨ws, h1, h2⟩ := ra q _ e
        obtain ⟨w, e3, r⟩ := RVs.get h2 ey
        rw [rv_ref.mp rx, rv.nil']
        rw [h2.length] at e3
        have e4 : RVs L.K A N H xs.dropLast ws.dropLast := by rw [List.dropLast_eq_take, List.dropLast_eq_take, h2.length]; exact h2.take _
        exact ⟨q, ws, w, rfl, rfl, h1, e3, k.lput ra e e4 r h⟩
      · exact h.elim
    · exact h.elim
  all_goals first | exact h.elim | contradiction
theorem tyV_of {A : AH} {N : Addr → Prop} {H : Hp} {d : D} {v : V} (ra : RA L A N H) (r : RV L.K A N H d v) (h : isT .list A d) : tyV L.K "list" v H := by
  cases d with
  | ref q =>
    rw [rv_ref.mp r]
    simp only [isT] at h
    split at h
    · next xs e => obtain ⟨ws, h1, _⟩ := ra q _ e; exact .inl ⟨rfl, ws, SqL.of h1⟩
    all_goals exact h.elim
  | _ => exact (show False from h).elim
variable {o : Expr} {io : IE} {name : Str} {apos cpos : Pos} {id : String} {r : V → List V → Hp → VK → Prop} {m : BM}
theorem de_bm (pa : PlainAttrs "list") (slot : Slot "list" name id) (hty : typeOf (.builtin id) = pure (.type "method_descriptor")) (hm : MtM X id r) (hr : DBm L r m) (ht : tyB m = .list) (ho : DE L G n X o io) (ha : DA L G n X (e :: es) ies)
    (hbase : attributeBase o name X.env (eval o X.env) = eval o X.env)
    (hfew : ((backTo cpos (starEach (e :: es) X.env)).all (fun x => !x.1) && (backToKw cpos (keywordEach [] X.env)).all (fun x => x.1.isSome) && decide ((e :: es).length + ([] : List Keyword).length + (if ([] : List Keyword).isEmpty then 0 else 1) < 30)) = true)
    (hline : (apos.endLine == cpos.line) = true) (hs : starEach (e :: es) X.env = (false, eval e X.env) :: starEach es X.env) (hplain : (backTo cpos (starEach es X.env)).any (·.1) = false) :
    DE L G n X (.Call (.Attribute o name apos) (e :: es) [] cpos) (.bm m io ies) := fun C W tk =>
  pe_imp (pe_bm pa slot hty hm (ho C W tk) (ha C W tk) hbase hfew hline hs hplain) fun σ H Q ⟨N, δ, A, Qd, Ed, rs, ra, h, hq, hx⟩ =>
    LE.use rs ra h (fun x A1 v1 H1 rv1 ra1 ex1 rs1 q1 => ⟨by rw [C.K]; exact tyV_of ra1 rv1 (by rw [← ht]; exact q1.1), LAs.use rs1 ra1 q1.2 (fun ds A2 vs H2 rv2 ra2 ex2 rs2 q2 =>
      hr x ds v1 vs A2 N H2 Q Qd (RV.stay (ex2.stay ra1) _ _ rv1) rv2 ra2 q2 fun d A' v' H' r1 r2 e q => hq d A' v' H' r1 r2 ((ex1.trans ex2).trans e) q) (XW.ext hx ex1)⟩) hx
theorem de_bm0 (pa : PlainAttrs "list") (slot : Slot "list" name id) (hty : typeOf (.builtin id) = pure (.type "method_descriptor")) (hm : MtM X id r) (hr : DBm L r m) (ht : tyB m = .list) (ho : DE L G n X o io)
    (hbase : attributeBase o name X.env (eval o X.env) = eval o X.env) (hline : (apos.endLine == cpos.line) = true) : DE L G n X (.Call (.Attribute o name apos) [] [] cpos) (.bm m io []) := fun C W tk =>
  pe_imp (pe_bm0 pa slot hty hm (ho C W tk) hbase hline) fun σ H Q ⟨N, δ, A, Qd, Ed, rs, ra, h, hq, hx⟩ =>
    LE.use rs ra h (fun x A1 v1 H1 rv1 ra1 ex1 rs1 q1 => ⟨by rw [C.K]; exact tyV_of ra1 rv1 (by rw [← ht]; exact q1.1), hr x [] v1 [] A1 N H1 Q Qd rv1 .nil ra1 q1.2 fun d A' v' H' r1 r2 e q => hq d A' v' H' r1 r2 (ex1.trans e) q⟩) hx

/-! ### calls of defs -/
theorem de_call {f : Nat} {fd : FnD} (hG : G.fn f = some fd) (hg : Gl X x) (hm : X.mg x = some (.ref (L.FA f))) (ha : DA L G n X (e :: es) ies) (hdb : (x == ("__debug__" : Str)) = false)
    (he : starEach (e :: es) X.env = (false, eval e X.env) :: starEach es X.env) (hpl : (backTo pos (starEach es X.env)).any (·.1) = false) : DE L G n X (.Call (.Name x p) (e :: es) [] pos) (.call f ies) := fun C W tk => by
  obtain ⟨fdt, ps, F, hb, hk⟩ := C.fns f fd hG
  refine ⟨fun pins s σ H Q I h => ?_⟩
  obtain ⟨N, δ, A, Qd, Ed, rs, ra, h, hq, hx⟩ := h
  refine wpAny_Call_Name_kw (ld_glob I hg hm ?_ hdb)
  refine PySem.W.callWith_K (h₀ := X.base) I.ok.mod.kin hk (thn ((ha C W tk).run pos pins s σ H (fun vs H1 => spD L (callN G n) f vs H1 Q fun cls d H' => W cls d σ H') I (LAs.use rs ra h (fun ds A1 vs H1 rv1 ra1 ex1 rs1 q1 =>
    ⟨N, ds, A1, Qd, Ed, rv1, ra1, q1, fun d A' v H' r1 r2 e q => hq d A' v H' r1 r2 (ex1.trans e) q, XW.ext hx ex1⟩) hx)) fun us s1 ⟨vs, H1, I1, r, q⟩ => ⟨I1.kIn, ?_⟩) he hpl
  have hl : (us ++ []).length = ps.length := by rw [List.append_nil, ← r.length]; exact F.len _ _ _ _ q
  have hb' := hb s1 us I1.kIn hl
  rw [List.append_nil] at hb'
  refine wpAny_call (codeAny_mono (F.run X.A X.stack s1 H1 ⟨us, []⟩ us vs Q _ (C.room.mono (Nat.le_succ _)) I1.env0 hb' r q) fun rr s2 hq2 => ?_)
  cases rr with
  | error u => exact tk u s2 (XE.of_call I1 (fun _ _ _ z => z) hq2)
  | ok fl =>
    cases fl with
    | ret u => exact I1.after hq2
    | next => exact False.elim hq2
    | brk => exact False.elim hq2
    | cont => exact False.elim hq2
end
end DL

set_option Elab.async false
set_option linter.all false
set_option maxRecDepth 100000
/-! targets, what is walked, comprehensions -/
namespace DL
open PySem PySem.Spec PyProof.Rows L2

/-! ### targets -/
def Only (is : List Nat) (σ σ' : L2.St) : Prop := σ'.length = σ.length ∧ ∀ j, j ∉ is → σ'[j]? = σ[j]?
theorem Only.refl {is : List Nat} {σ : L2.St} : Only is σ σ := ⟨rfl, fun _ _ => rfl⟩
theorem Only.trans {is js : List Nat} {σ σ1 σ2 : L2.St} (a : Only is σ σ1) (b : Only js σ1 σ2) : Only (is ++ js) σ σ2 := ⟨b.1.trans a.1, fun j h => by
  rw [List.mem_append, not_or] at h
  rw [b.2 j h.2, a.2 j h.1]⟩
mutual
def slots : Tg → List Nat
  | .nm i => [i]
  | .tp ts => slotss ts
def slotss : List Tg → List Nat
  | [] => []
  | t :: ts => slots t ++ slotss ts
end
def LG (L : Lk) (t : Tg) : TG := fun v σ H Q => ∃ (N : Addr → Prop) (d : D) (δ : DSt) (A : AH) (Qd : DSt → Prop), RV L.K A N H d v ∧ RS L.K A N H δ σ ∧ RA L A N H ∧ gAsg t d δ A Qd ∧ ∀ δ' σ', RS L.K A N H δ' σ' → Only (slots t) σ σ' → Qd δ' → Q σ' H
def LGs (L : Lk) (ts : List Tg) : TGs := fun vs σ H Q => ∃ (N : Addr → Prop) (ds : List D) (δ : DSt) (A : AH) (Qd : DSt → Prop), RVs L.K A N H ds vs ∧ RS L.K A N H δ σ ∧ RA L A N H ∧ gAsgs ts ds δ A Qd ∧ ∀ δ' σ', RS L.K A N H δ' σ' → Only (slotss ts) σ σ' → Qd δ' → Q σ' H
def DG (L : Lk) (G : Gm) (n : Nat) (X : Cx) (e : Expr) (t : Tg) : Prop := Cn L G n X → PG X e (LG L t)
def DGs (L : Lk) (G : Gm) (n : Nat) (X : Cx) (es : List Expr) (ts : List Tg) : Prop := Cn L G n X → PGs X es (LGs L ts)
theorem RS.set {K : PySem.W.Frag} {A : AH} {N : Addr → Prop} {H : Hp} {δ : DSt} {σ : L2.St} {d : D} {v : V} (r : RS K A N H δ σ) (rv : RV K A N H d v) (i : Nat) : RS K A N H (δ.set i (some d)) (σ.set i (some v)) := by
  refine ⟨by rw [List.length_set, List.length_set]; exact r.1, fun j e h => ?_⟩
  by_cases hj : i = j
  · subst hj
    by_cases hl : i < δ.length
    · rw [List.getElem?_set_self hl] at h
      cases h
      exact ⟨v, List.getElem?_set_self (by rw [r.1]; exact hl), rv⟩
    · rw [List.getElem?_eq_none (by rw [List.length_set]; omega)] at h
      cases h
  · rw [List.getElem?_set_ne hj] at h
    obtain ⟨u, e1, e2⟩ := r.2 j e h
    exact ⟨u, by rw [List.getElem?_set_ne hj]; exact e1, e2⟩
theorem RS.kill {K : PySem.W.Frag} {A : AH} {N : Addr → Prop} {H : Hp} {δ : DSt} {σ : L2.St} (r : RS K A N H δ σ) (i : Nat) : RS K A N H (δ.set i none) (σ.set i none) := by
  refine ⟨by rw [List.length_set, List.length_set]; exact r.1, fun j e h => ?_⟩
  by_cases hj : i = j
  · subst hj
    by_cases hl : i < δ.length
    · rw [List.getElem?_set_self hl] at h; cases h
    · rw [List.getElem?_eq_none (by rw [List.length_set]; omega)] at h; cases h
  · rw [List.getElem?_set_ne hj] at h
    obtain ⟨u, e1, e2⟩ := r.2 j e h
    exact ⟨u, by rw [List.getElem?_set_ne hj]; exact e1, e2⟩
theorem RS.wipe {K : PySem.W.Frag} {A : AH} {N : Addr → Prop} {H : Hp} {δ : DSt} {σ : L2.St} (r : RS K A N H δ σ) : ∀ vs : List Nat, RS K A N H (wipeD δ vs) (wipe σ vs)
  | [] => r
  | v :: vs => by unfold wipeD L2.wipe; exact RS.kill (RS.wipe r vs) v
section
variable {L : Lk} {G : Gm} {n : Nat} {X : Cx} {x : Str} {pos : Pos} {e : Expr} {es : List Expr} {t : Tg} {ts : List Tg}
theorem dg_name {i : Nat} (hi : X.N[i]? = some x) (hx : Loc X.env.scope x) (hf : X.fn x = true ∨ X.env.scope.names.lookup x = some .local) : DG L G n X (.Name x pos) (.nm i) := fun C =>
  ⟨fun pins s σ H v u Q I r ⟨N, d, δ, A, Qd, rv, rs, ra, h, hq⟩ => (pg_name C.nd hi hx hf).run pins s σ H v u Q I r (hq _ _ (rs.set rv i) ⟨List.length_set, fun j hj => List.getElem?_set_ne (fun z => hj (by rw [z]; exact List.mem_singleton.mpr rfl))⟩ h)⟩
theorem dgs_nil : DGs L G n X [] [] := fun C =>
  ⟨fun pins s σ H vs us Q I r ⟨N, ds, δ, A, Qd, rv, rs, ra, h, hq⟩ => by
    obtain ⟨rfl, h⟩ := h
    rw [rv.nil'] at r
    exact pgs_nil.run pins s σ H [] us Q I r ⟨rfl, hq _ _ rs .refl h⟩⟩
theorem dgs_cons (h1 : DG L G n X e t) (h2 : DGs L G n X es ts) (hs : (assignEach (e :: es) X.env).map (·.2) = assign e X.env :: (assignEach es X.env).map (·.2)) : DGs L G n X (e :: es) (t :: ts) := fun C =>
  ⟨fun pins s σ H vs us Q I r ⟨N, ds, δ, A, Qd, rv, rs, ra, h, hq⟩ => by
    cases ds with
    | nil => exact (show False from h).elim
    | cons d dr =>
      obtain ⟨v, vr, rfl, r1, r2⟩ := rv.cons'
      have h : gAsg t d δ A (fun δ' => gAsgs ts dr δ' A Qd) := h
      exact (pgs_cons (h1 C) (h2 C) hs).run pins s σ H (v :: vr) us Q I r ⟨v, vr, rfl, N, d, δ, A, _, r1, rs, ra, h, fun δ1 σ1 rs1 on1 q1 =>
        ⟨N, dr, δ1, A, Qd, r2, rs1, ra, q1, fun δ2 σ2 rs2 on2 q2 => hq δ2 σ2 rs2 (on1.trans on2) q2⟩⟩⟩
mutual
theorem gAsg_mono : ∀ (t : Tg) (x : D) (δ : DSt) (A : AH) (Q Q' : DSt → Prop), (∀ δ, Q δ → Q' δ) → gAsg t x δ A Q → gAsg t x δ A Q'
  | .nm i, x, δ, A, Q, Q', k, h => by unfold gAsg at *; exact k _ h
  | .tp ts, x, δ, A, Q, Q', k, h => by
    unfold gAsg at *
    split at h
    · next xs e => exact gAsgs_mono ts xs δ A Q Q' k h
    · exact h.elim
theorem gAsgs_mono : ∀ (ts : List Tg) (xs : List D) (δ : DSt) (A : AH) (Q Q' : DSt → Prop), (∀ δ, Q δ → Q' δ) → gAsgs ts xs δ A Q → gAsgs ts xs δ A Q'
  | [], xs, δ, A, Q, Q', k, h => by unfold gAsgs at *; exact ⟨h.1, k _ h.2⟩
  | t :: ts, xs, δ, A, Q, Q', k, h => by
    unfold gAsgs at *
    split at h
    · next x r => exact gAsg_mono t x δ A _ _ (fun δ' q => gAsgs_mono ts r δ' A Q Q' k q) h
    · exact h.elim
end
mutual
theorem gAsg_any : ∀ (t : Tg) (x : D) (δ : DSt) (A : AH) (Q : DSt → Prop), gAsg t x δ A Q → ∃ δ', Q δ'
  | .nm i, x, δ, A, Q, h => by unfold gAsg at h; exact ⟨_, h⟩
  | .tp ts, x, δ, A, Q, h => by
    unfold gAsg at h
    split at h
    · next xs e => obtain ⟨h1, _⟩ := gAsgs_any ts xs δ A Q h; exact h1
    · exact h.elim
theorem gAsgs_any : ∀ (ts : List Tg) (xs : List D) (δ : DSt) (A : AH) (Q : DSt → Prop), gAsgs ts xs δ A Q → (∃ δ', Q δ') ∧ xs.length = ts.length
  | [], xs, δ, A, Q, h => by unfold gAsgs at h; exact ⟨⟨_, h.2⟩, by rw [h.1]; rfl⟩
  | t :: ts, xs, δ, A, Q, h => by
    unfold gAsgs at h
    split at h
    · next x r =>
      obtain ⟨δ1, h1⟩ := gAsg_any t x δ A _ h
      obtain ⟨h2, h3⟩ := gAsgs_any ts r δ1 A Q h1
      exact ⟨h2, by rw [List.length_cons, List.length_cons, h3]⟩
    · exact h.elim
end
theorem dg_tup {k : Nat} (h : DGs L G n X es ts) (hn : (assignEach es X.env).length = ts.length) (hst : (assignEach es X.env).findIdx? (·.1) = none) : DG L G n X (.Tuple es k pos) (.tp ts) := fun C =>
  ⟨fun pins s σ H v u Q I r ⟨N, d, δ, A, Qd, rv, rs, ra, h1, hq⟩ => by
    unfold gAsg at h1
    split at h1
    · next xs e =>
      obtain ⟨a, vs, rfl, hs, h2⟩ := seqD_rv e ra rv
      have hl : vs.length = ts.length := by rw [← h2.length]; exact (gAsgs_any ts xs δ A Qd h1).2
      rw [← C.K] at hs
      rcases hs with hs | hs
      · exact (pg_lst C.calm (h C) hn hst).run pins s σ H (.ref a) u Q I r ⟨a, vs, rfl, hs, hl, N, xs, δ, A, Qd, h2, rs, ra, h1, hq⟩
      · exact (pg_tup C.calm (h C) hn hst).run pins s σ H (.ref a) u Q I r ⟨a, vs, rfl, hs, hl, N, xs, δ, A, Qd, h2, rs, ra, h1, hq⟩
    · exact h1.elim⟩
end

/-! ### what is walked -/
structure DWk (L : Lk) (N0 : Addr → Prop) (J : It) (xs : List D) (g : AH → Prop) (A0 : AH) (H0 : Hp) : Prop where
  goes : ∀ i A N H, i < xs.length → RA L A N H → Stay A0 N0 H0 A N H → g A → J.go i H
  stops : ∀ A N H, RA L A N H → Stay A0 N0 H0 A N H → g A → J.stop xs.length H
  yields : ∀ i x A N H H', i < xs.length → RA L A N H → Stay A0 N0 H0 A N H → g A → J.yld i H x H' → ∃ d, xs[i]? = some d ∧ RV L.K A N H' d x ∧ RA L A N H' ∧ Ext A H A H'
def LI (L : Lk) (W : WX) (k : SrcK) (w : WA) : TI := fun σ H R => ∃ (N : Addr → Prop) (δ : DSt) (A : AH) (Rd : List D → (AH → Prop) → AH → Prop) (Ed : XQ), RS L.K A N H δ σ ∧ RA L A N H ∧ w δ A (fun ds A1 => dSrc k ds A1 fun xs g => Rd xs g A1) Ed ∧
  (∀ xs g A' H' J, DWk L N J xs g A' H' → RA L A' N H' → Ext A H A' H' → Rd xs g A' → R J H') ∧ ∀ x A' H', RA L A' N H' → Ext A H A' H' → Ed x A' → W (L.XV x) none σ H'
def DI (L : Lk) (G : Gm) (n : Nat) (X : Cx) (tg iter : Expr) (k : SrcK) (ies : List IE) : Prop := Cn L G n X → ∀ W, Takes X W → PI X tg iter (LI L W k (wpEs (callN G n) G ies))
theorem pi_imp {X : Cx} {tg iter : Expr} {t t' : TI} (h : PI X tg iter t) (k : ∀ σ H R, t' σ H R → t σ H R) : PI X tg iter t' := ⟨fun pins s σ H R I q => h.run pins s σ H R I (k σ H R q)⟩
section
variable {L : Lk} {G : Gm} {n : Nat} {X : Cx} {tg a b e : Expr} {ia ib : IE} {pos p : Pos} {A0 : AH} {N0 : Addr → Prop} {H0 : Hp}
theorem dwk_tup {q : Addr} {vs : List V} {ds : List D} (ra0 : RA L A0 N0 H0) (h : SqT L.K H0 q vs) (r : RVs L.K A0 N0 H0 ds vs) : DWk L N0 (Itt L.K q) ds (fun _ => True) A0 H0 := by
  have st : ∀ {A N H}, Stay A0 N0 H0 A N H → SqT L.K H q vs := fun x => DL.SqT.stay x h
  refine ⟨fun i A N H hi ra x _ => ?_, fun A N H ra x _ => ⟨vs, st x, by rw [r.length]; exact Nat.le_refl _⟩, fun i y A N H H' hi ra x _ hy => ?_⟩
  · obtain ⟨v, e, _⟩ := RVs.get r (List.getElem?_eq_getElem hi)
    exact ⟨vs, v, st x, e⟩
  · obtain ⟨rfl, hy⟩ := hy
    obtain ⟨d, e1, e2⟩ := RVs.gets r (hy vs (st x))
    exact ⟨d, e1, RV.stay x _ _ e2, ra, Ext.refl _ _⟩
theorem dwk_rol {q : Addr} {vs : List V} {ds : List D} (ra0 : RA L A0 N0 H0) (h : SqR L.K A0 N0 H0 q vs) (r : RVs L.K A0 N0 H0 ds vs) : DWk L N0 (Itl L.K q) ds (fun _ => True) A0 H0 := by
  have st : ∀ {A N H}, Stay A0 N0 H0 A N H → SqL L.K H q vs := fun x => (DL.SqR.stay x h).seq
  refine ⟨fun i A N H hi ra x _ => ?_, fun A N H ra x _ => ⟨vs, st x, by rw [r.length]; exact Nat.le_refl _⟩, fun i y A N H H' hi ra x _ hy => ?_⟩
  · obtain ⟨v, e, _⟩ := RVs.get r (List.getElem?_eq_getElem hi)
    exact ⟨vs, v, st x, e⟩
  · obtain ⟨rfl, hy⟩ := hy
    obtain ⟨d, e1, e2⟩ := RVs.gets r (hy vs (st x))
    exact ⟨d, e1, RV.stay x _ _ e2, ra, Ext.refl _ _⟩
theorem dwk_fl {q : Addr} {vs : List V} {ds : List D} (ra0 : RA L A0 N0 H0) (h : RdL A0 N0 H0 q vs) (r : RVs L.K A0 N0 H0 ds vs) : DWk L N0 (Itl L.K q) ds (fun _ => True) A0 H0 := dwk_rol ra0 (.inl h) r
theorem dwk_lst {q : Addr} {ds : List D} : DWk L N0 (Itl L.K q) ds (fun A => A q = some (.lst ds)) A0 H0 := by
  refine ⟨fun i A N H hi ra x g => ?_, fun A N H ra x g => ?_, fun i y A N H H' hi ra x g hy => ?_⟩
  · obtain ⟨vs, h1, h2⟩ := ra q _ g
    obtain ⟨v, e, _⟩ := RVs.get h2 (List.getElem?_eq_getElem hi)
    exact ⟨vs, v, SqL.of h1, e⟩
  · obtain ⟨vs, h1, h2⟩ := ra q _ g
    exact ⟨vs, SqL.of h1, by rw [h2.length]; exact Nat.le_refl _⟩
  · obtain ⟨vs, h1, h2⟩ := ra q _ g
    obtain ⟨rfl, hy⟩ := hy
    obtain ⟨d, e1, e2⟩ := RVs.gets h2 (hy vs (SqL.of h1))
    exact ⟨d, e1, e2, ra, Ext.refl _ _⟩
theorem dwk_rng {lo hi : Int} : DWk L N0 (Itr lo (hi - lo).toNat) (rgD lo hi) (fun _ => True) A0 H0 := by
  have hl : (rgD lo hi).length = (hi - lo).toNat := by unfold rgD; rw [List.length_map, List.length_range]
  refine ⟨fun i A N H hi ra x _ => ?_, fun A N H ra x _ => ?_, fun i y A N H H' hi ra x _ hy => ?_⟩
  · rw [hl] at hi; exact hi
  · show _ ≤ _
    rw [hl]; exact Nat.le_refl _
  · obtain ⟨rfl, rfl⟩ := hy
    rw [hl] at hi
    refine ⟨.int (lo + (i : Nat)), ?_, rv_int.mpr rfl, ra, Ext.refl _ _⟩
    unfold rgD
    rw [List.getElem?_map, List.getElem?_range hi]; rfl
theorem di_seq (ha : DE L G n X a ia) : DI L G n X tg a .seq [ia] := fun C W tk => by
  refine ⟨fun pins s σ H R I h => ?_⟩
  obtain ⟨N, δ, A, Rd, Ed, rs, ra, h, hq, hx⟩ := h
  refine thn ((ha C W tk).run pins s σ H (fun v H' => ∃ d A', RV L.K A' N H' d v ∧ RA L A' N H' ∧ Ext A H A' H' ∧ dSrc .seq [d] A' fun xs g => Rd xs g A') I (LE.use rs ra h (fun d A1 v1 H1 rv1 ra1 ex1 rs1 q1 => ⟨d, A1, rv1, ra1, ex1, q1⟩) hx)) fun v s1 ⟨y, H1, I1, r1, d, A1, rv1, ra1, ex1, q1⟩ => ?_
  have fresh : ∀ {b : Addr}, b ∈ [s1.heap.objs.size] → FpOk X pins H1 b := fun {b} hb => by
    obtain rfl : b = s1.heap.objs.size := by simpa using hb
    exact I1.fpOk (Nat.le_refl _) (I1.hok.fresh (Nat.le_refl _))
  have list : ∀ {q vs}, y = .ref q → SqL X.K H1 q vs → R (Itl L.K q) H1 → wpAny (model X.prog X.w) X.A (pyIter v) (PIE X pins σ tg R) X.xe s1 := fun {q vs} e hs hr => by
    subst e
    cases r1
    obtain ⟨its, rv, pl, hz⟩ := I1.list hs
    refine wpAny_pyIter_list pl.isList ⟨s1.heap.objs.size, [s1.heap.objs.size], _, _, H1, rfl, I1.kept (t' := s1.toks) fun b o e => Heap.get?_push_of_some _ e, turn_list q _, ⟨_, Heap.get?_push_size _ rfl, rfl, rfl⟩, fun b hb => fresh hb, by rw [C.K]; exact hr⟩
  cases d with
  | tup xs =>
    obtain ⟨q, vs, rfl, h1, h2⟩ := rv_tup.mp rv1
    cases r1
    have h3 := h1
    rw [← C.K] at h3
    obtain ⟨its, rv, pl, hz⟩ := I1.tuple h3
    refine wpAny_pyIter_tuple (show s1.heap.IsTuple q its.toArray from pl) ⟨s1.heap.objs.size, [s1.heap.objs.size], _, _, H1, rfl, I1.kept (t' := s1.toks) fun b o e => Heap.get?_push_of_some _ e, turn_tuple q _, ⟨_, Heap.get?_push_size _ rfl, rfl, rfl⟩, fun b hb => fresh hb, ?_⟩
    rw [C.K]
    exact hq xs _ A1 H1 _ (dwk_tup ra1 h1 h2) ra1 ex1 q1
  | rol xs =>
    obtain ⟨q, vs, e, h1, h2⟩ := rv_rol.mp rv1
    exact list e (by rw [C.K]; exact h1.seq) (hq xs _ A1 H1 _ (dwk_rol ra1 h1 h2) ra1 ex1 q1)
  | fl xs =>
    obtain ⟨q, vs, e, h1, h2⟩ := rv_fl.mp rv1
    exact list e (.inl h1.1) (hq xs _ A1 H1 _ (dwk_fl ra1 h1 h2) ra1 ex1 q1)
  | ref q =>
    simp only [dSrc] at q1
    split at q1
    · next xs e =>
      obtain ⟨vs, h1, h2⟩ := ra1 q _ e
      exact list (rv_ref.mp rv1) (SqL.of h1) (hq xs _ A1 H1 _ dwk_lst ra1 ex1 q1)
    · exact q1.elim
  | _ => exact (show False from q1).elim
theorem di_rng1 (hg : Gl X "range") (hm : X.mg "range" = none) (ha : DE L G n X a ia) (hs : starEach [a] X.env = (false, eval a X.env) :: starEach [] X.env) : DI L G n X tg (.Call (.Name "range" p) [a] [] pos) .rng [ia] := fun C W tk =>
  pi_imp (pi_range1 hg hm (pa_cons (ha C W tk) pa_nil hs) hs) fun σ H R ⟨N, δ, A, Rd, Ed, rs, ra, h, hq, hx⟩ =>
    LE.use rs ra h (fun d A1 v1 H1 rv1 ra1 ex1 rs1 q1 => by
      cases d with
      | int j =>
        have q1 : (-(2 ^ 62) ≤ (0 : Int) ∧ (0 : Int) < 2 ^ 62 ∧ -(2 ^ 62) ≤ j ∧ j < 2 ^ 62) ∧ Rd (rgD 0 j) (fun _ => True) A1 := q1
        have w := dwk_rng (L := L) (N0 := N) (lo := 0) (hi := j) (A0 := A1) (H0 := H1)
        rw [Int.sub_zero] at w
        exact ⟨j, by rw [rv_int.mp rv1], q1.1.2.2.1, q1.1.2.2.2, hq _ _ A1 H1 _ w ra1 ex1 q1.2⟩
      | _ => exact (show False from q1).elim) hx
theorem di_rng2 (hg : Gl X "range") (hm : X.mg "range" = none) (ha : DE L G n X a ia) (hb : DE L G n X b ib) (hs : starEach [a, b] X.env = (false, eval a X.env) :: starEach [b] X.env) (hs2 : starEach [b] X.env = (false, eval b X.env) :: starEach [] X.env) : DI L G n X tg (.Call (.Name "range" p) [a, b] [] pos) .rng [ia, ib] := fun C W tk =>
  pi_imp (pi_range2 hg hm (pa_cons (ha C W tk) (pa_cons (hb C W tk) pa_nil hs2) hs) (hs.trans (by rw [hs2]; rfl)) hs2) fun σ H R ⟨N, δ, A, Rd, Ed, rs, ra, h, hq, hx⟩ =>
    LE.use rs ra h (fun d A1 v1 H1 rv1 ra1 ex1 rs1 q1 => LE.use rs1 ra1 q1 (fun d2 A2 v2 H2 rv2 ra2 ex2 rs2 q2 => by
      have rv1' := RV.stay (ex2.stay ra1) _ _ rv1
      cases d with
      | int i =>
        cases d2 with
        | int j =>
          have q2 : (-(2 ^ 62) ≤ i ∧ i < 2 ^ 62 ∧ -(2 ^ 62) ≤ j ∧ j < 2 ^ 62) ∧ Rd (rgD i j) (fun _ => True) A2 := q2
          exact ⟨i, j, by rw [rv_int.mp rv1', rv_int.mp rv2], q2.1, hq _ _ A2 H2 _ dwk_rng ra2 (ex1.trans ex2) q2.2⟩
        | _ => exact (show False from q2).elim
      | _ => cases d2 <;> exact (show False from q2).elim) (XW.ext hx ex1)) hx
end
end DL

set_option Elab.async false
set_option linter.all false
set_option maxRecDepth 100000
/-! comprehensions -/
namespace DL
open PySem PySem.Spec PyProof.Rows L2
theorem wipe_at {σ : L2.St} {i : Nat} : ∀ {vs : List Nat}, i ∈ vs → i < σ.length → (wipe σ vs)[i]? = some none
  | v :: vs, h, hl => by
    unfold wipe
    by_cases e : v = i
    · subst e; rw [List.getElem?_set_self (by rw [wipe_length]; exact hl)]
    · rw [List.getElem?_set_ne e]
      exact wipe_at ((List.mem_cons.mp h).resolve_left (Ne.symm e)) hl
theorem wipe_eq {σ σ' : L2.St} {vs : List Nat} (o : Only vs σ σ') : wipe σ' vs = wipe σ vs := by
  refine List.ext_getElem? fun i => ?_
  by_cases h : i ∈ vs
  · by_cases hl : i < σ.length
    · rw [wipe_at h hl, wipe_at h (by rw [o.1]; exact hl)]
    · rw [List.getElem?_eq_none (by rw [wipe_length, o.1]; omega), List.getElem?_eq_none (by rw [wipe_length]; omega)]
  · rw [wipe_out h, wipe_out h, o.2 i h]
theorem wipe_only {σ : L2.St} {vs : List Nat} : Only vs σ (wipe σ vs) := ⟨wipe_length _ _, fun j h => wipe_out h⟩
theorem wipe_wipe {σ : L2.St} {vs : List Nat} : wipe (wipe σ vs) vs = wipe σ vs := wipe_eq wipe_only
theorem Only.sub {is js : List Nat} {σ σ' : L2.St} (o : Only is σ σ') (h : ∀ i ∈ is, i ∈ js) : Only js σ σ' := ⟨o.1, fun j hj => o.2 j fun z => hj (h j z)⟩
/-- kept back besides -/
def hide (N : Addr → Prop) (D : Addr) : Addr → Prop := fun b => N b ∨ b = D
section
variable {L : Lk} {A : AH} {N : Addr → Prop} {H : Hp} {b : Addr} {u x : HO}
theorem Stay.hide (n : H b = none) : Stay A N H A (DL.hide N b) (upd H b u) := by
  have ne : ∀ {c : Addr} {w : HO}, Rd H c w → c ≠ b := fun h z => by
    subst z
    rcases h with h | ⟨o, h⟩ <;> rw [n] at h <;> cases h
  have rd : ∀ {c : Addr} {w : HO}, Rd H c w → Rd (upd H b u) c w := fun {c w} h => by
    unfold Rd; rw [upd_ne (ne h)]; exact h
  exact ⟨fun c w _ h => by rw [upd_ne (ne (.inl h))]; exact h, fun c xs h => ⟨rd h.1, h.2.1, fun z => z.elim h.2.2 (ne h.1)⟩, fun c xs h => ⟨rd h.1, h.2.1, fun z => z.elim h.2.2 (ne h.1)⟩⟩
theorem RA.hide (r : RA L A N H) (n : H b = none) : RA L A (DL.hide N b) (upd H b u) := ⟨fun c w e => by
  have z : c ≠ b := fun z => by subst z; rw [r.non n] at e; cases e
  exact RO.stay (.hide n) (fun y q => by rw [upd_ne z]; exact q) (r c w e), fun c hc => by
  by_cases z : c = b
  · subst z; exact ⟨r.non n, u, upd_same⟩
  · obtain ⟨h1, w, h2⟩ := r.hid c (hc.resolve_right z)
    exact ⟨h1, w, by rw [upd_ne z]; exact h2⟩⟩
/-- what is kept back may change -/
theorem Stay.quiet (hb : N b) (h : H b = some x) (n1 : ∀ xs, x ≠ .tup xs) (n2 : ∀ ob y, x ≠ .frz ob y) : Stay A N H A N (upd H b u) := by
  refine ⟨fun c xs _ h' => ?_, fun c xs h' => ?_, fun c xs h' => ?_⟩
  · rename_i t
    have z : c ≠ b := fun z => by
      subst z
      rw [h] at h'; cases h'
      rcases t with ⟨_, e⟩ | ⟨_, _, e⟩
      · exact n1 _ e
      · exact n2 _ _ e
    rw [upd_ne z]; exact h'
  · have z : c ≠ b := fun z => by subst z; exact h'.2.2 hb
    refine ⟨?_, h'.2⟩
    have := h'.1
    unfold Rd at this ⊢; rw [upd_ne z]; exact this
  · have z : c ≠ b := fun z => by subst z; exact h'.2.2 hb
    refine ⟨?_, h'.2⟩
    have := h'.1
    unfold Rd at this ⊢; rw [upd_ne z]; exact this
theorem RA.quiet (r : RA L A N H) (hb : N b) (h : H b = some x) (n1 : ∀ xs, x ≠ .tup xs) (n2 : ∀ ob y, x ≠ .frz ob y) : RA L A N (upd H b u) := ⟨fun c w q => by
  have z : c ≠ b := fun z => by subst z; rw [(r.hid _ hb).1] at q; cases q
  exact RO.stay (.quiet hb h n1 n2) (fun x q => by rw [upd_ne z]; exact q) (r c w q), fun c hc => by
  obtain ⟨h1, w, h2⟩ := r.hid c hc
  by_cases z : c = b
  · subst z; exact ⟨h1, u, upd_same⟩
  · exact ⟨h1, w, by rw [upd_ne z]; exact h2⟩⟩
/-- told now -/
theorem Stay.show {o : AO} : Stay A (DL.hide N b) H (up A b o) N H :=
  ⟨fun _ _ _ h => h, fun c xs h => ⟨h.1, by rw [up_ne (fun z => h.2.2 (.inr z))]; exact h.2.1, fun z => h.2.2 (.inl z)⟩, fun c xs h => ⟨h.1, by rw [up_ne (fun z => h.2.2 (.inr z))]; exact h.2.1, fun z => h.2.2 (.inl z)⟩⟩
theorem RA.show {ds : List D} {vs : List V} (r : RA L A (DL.hide N b) H) (nb : ¬ N b) (h : H b = some (.lst vs)) (rv : RVs L.K A (DL.hide N b) H ds vs) : RA L (up A b (.lst ds)) N H := ⟨fun c w q => by
  by_cases z : c = b
  · subst z; rw [up_same] at q; cases q; exact ⟨vs, h, RVs.stay .show _ _ rv⟩
  · rw [up_ne z] at q; exact RO.stay .show (fun _ q => q) (r c w q), fun c hc => by
  have z : c ≠ b := fun z => by subst z; exact nb hc
  rw [up_ne z]; exact r.hid c (.inl hc)⟩
end
section
variable {L : Lk} {G : Gm} {n : Nat} {X : Cx} {tg iter elt : Expr} {ifs : List Expr} {k : SrcK} {ies : List IE} {it : IT} {ie : IE} {t : Tg}
/-- the tests of a comprehension -/
def DTs (L : Lk) (G : Gm) (n : Nat) (X : Cx) (ifs : List Expr) (i : IT) : Prop := Cn L G n X → ∀ W, Takes X W → PTs X ifs (LT L W (wpT (callN G n) G i))
theorem pts_imp {X : Cx} {e : List Expr} {t t' : TT} (h : PTs X e t) (k : ∀ σ H Q, t' σ H Q → t σ H Q) : PTs X e t' := ⟨fun pins s σ H Q I q => h.run pins s σ H Q I (k σ H Q q)⟩
theorem dts_nil : DTs L G n X [] .yes := fun C W tk => pts_imp pts_nil fun σ H Q ⟨N, δ, A, Qd, Ed, rs, ra, h, hq, hx⟩ => hq true A H ra (Ext.refl _ _) h
theorem dts_one {c : Expr} (h : DT L G n X c it) : DTs L G n X [c] it := fun C W tk => pts_one (h C W tk)
abbrev W0 : WX := fun _ _ _ _ => False
/-- the block's context -/
theorem Cn.blk (C : Cn L G n X) (s : Shared) (H : Hp) (scope : Scope) (env : Env) (fp : List Addr) : Cn L G n (X.blk s H scope env fp) := ⟨C.K, C.calm, C.room, C.nd, C.fns, C.cls⟩
theorem tlc_of {W : WX} {wi : TI} {vs : List Nat} {σ : L2.St} {H : Hp} {Q : VK} (hvs : ∀ i ∈ slots t, i ∈ vs) (wE : WE) (wT : WT) (wA : WA)
    (h : LE L W (fun δ A Q E => wA δ A (fun ds A1 => dSrc k ds A1 fun xs g => xs.length ≤ sizeLine ∧ dComp t g wT wE (wipeD δ vs) xs [] A1 Q) E) σ H Q) (hw : ∀ R, LI L W k wA σ H R → wi σ H R) :
    tLc wi (LG L t) (LT L W0 wT) (LE L W0 wE) vs σ H Q := by
  obtain ⟨N, δ, A, Qd, Ed, rs, ra, h, hq, hx⟩ := h
  refine hw _ ⟨N, δ, A, fun xs g A1 => xs.length ≤ sizeLine ∧ dComp t g wT wE (wipeD δ vs) xs [] A1 Qd, Ed, rs, ra, h, fun xs g A1 H1 J wk ra1 ex1 q1 => ?_, hx⟩
  intro Dn nD
  obtain ⟨hz, q1⟩ := q1
  have nA1 : A1 Dn = none := ra1.non nD
  -- the invariant
  refine ⟨fun i m H' => m = xs.length - i ∧ i ≤ xs.length ∧ ∃ A' acc accV, RA L A' (hide N Dn) H' ∧ Ext A1 H1 A' H' ∧ A' Dn = none ∧ H' Dn = some (.lst accV) ∧ RVs L.K A' (hide N Dn) H' acc accV ∧ acc.length ≤ i ∧ dComp t g wT wE (wipeD δ vs) (xs.drop i) acc A' Qd, ⟨_, rfl, Nat.zero_le _, A1, [], [], ?_, ?_, nA1, upd_same, .nil, Nat.le_refl _, q1⟩, ?_⟩
  · exact ra1.hide nD
  · exact Ext.tupNew ra1 nD
  · rintro i m H' ⟨rfl, hi, A', acc, accV, ra', ex', nA', hD, rv', hl, hc⟩
    by_cases hlt : i < xs.length
    · rw [List.drop_eq_getElem_cons hlt] at hc
      obtain ⟨gA, hc⟩ : g A' ∧ gAsg t xs[i] (wipeD δ vs) A' (fun δ' => wT δ' A' (fun b A1 => if b = true then wE δ' A1 (fun y A2 => dComp t g wT wE (wipeD δ vs) (xs.drop (i + 1)) (acc ++ [y]) A2 Qd) (fun _ _ => False) else dComp t g wT wE (wipeD δ vs) (xs.drop (i + 1)) acc A1 Qd) (fun _ _ => False)) := hc
      have st0 : Stay A1 N H1 A' (hide N Dn) H' := ⟨fun b w t h => (ex' b w h (ra1.tup' t h)).1, fun b xs h => let q := ex'.rd h.1 h.2.1; ⟨q.1, q.2, fun z => z.elim h.2.2 fun z => by subst z; rcases h.1 with h | ⟨o, h⟩ <;> rw [nD] at h <;> cases h⟩, fun b xs h => let q := ex'.rd h.1 h.2.1; ⟨q.1, q.2, fun z => z.elim h.2.2 fun z => by subst z; rcases h.1 with h | ⟨o, h⟩ <;> rw [nD] at h <;> cases h⟩⟩
      refine .inr ⟨wk.goes i A' _ H' hlt ra' st0 gA, fun H'' => (∃ A' acc accV, RA L A' (hide N Dn) H'' ∧ Ext A1 H1 A' H'' ∧ A' Dn = none ∧ H'' Dn = some (.lst accV) ∧ RVs L.K A' (hide N Dn) H'' acc accV ∧ acc.length ≤ i + 1 ∧ dComp t g wT wE (wipeD δ vs) (xs.drop (i + 1)) acc A' Qd), fun H'' q => ⟨xs.length - (i + 1), by omega, rfl, hlt, q⟩, fun x H2 hy => ?_⟩
      obtain ⟨d, e1, rx, ra2, ex2⟩ := wk.yields i x A' _ H' H2 hlt ra' st0 gA hy
      rw [List.getElem?_eq_getElem hlt] at e1
      cases e1
      have hD2 := ex2 Dn _ hD nA'
      have rs2 : RS L.K A' (hide N Dn) H2 (wipeD δ vs) (wipe σ vs) := (((rs.wipe vs).stay (ex1.stay ra)).stay st0).stay (ex2.stay ra')
      have rv2 := RVs.stay (ex2.stay ra') _ _ rv'
      refine ⟨_, _, _, A', _, rx, rs2, ra2, hc, fun δ3 σ3 rs3 on3 q3 => ⟨?_, ?_⟩⟩
      · rw [wipe_eq (on3.sub hvs), wipe_wipe]
      · refine LT.use rs3 ra2 q3 (fun b A4 H4 ra4 ex4 rs4 q4 => ?_) (fun _ _ _ _ _ z => z)
        have hD4 := ex4 Dn _ hD2.1 hD2.2
        have rv4 := RVs.stay (ex4.stay ra2) _ _ rv2
        cases b with
        | true =>
          rw [if_pos rfl] at q4 ⊢
          refine LE.use rs4 ra4 q4 (fun y A5 v5 H5 rv5 ra5 ex5 rs5 q5 => ?_) (fun _ _ _ _ _ z => z)
          have hD5 := ex5 Dn _ hD4.1 hD4.2
          have rv6 := (RVs.stay (ex5.stay ra4) _ _ rv4).snoc rv5
          have no1 : ∀ xs, HO.lst accV ≠ .tup xs := by intro _ z; cases z
          have no2 : ∀ ob y, HO.lst accV ≠ .frz ob y := by intro _ _ z; cases z
          refine ⟨accV, hD5.1, by rw [← rv4.length]; omega, A5, acc ++ [y], accV ++ [v5], ra5.quiet (.inr rfl) hD5.1 no1 no2, ?_, hD5.2, upd_same, RVs.stay (.quiet (.inr rfl) hD5.1 no1 no2) _ _ rv6, ?_, q5⟩
          · intro b o hb nb
            have z : b ≠ Dn := ne_of_none hb nD
            rw [upd_ne z]
            exact ((((ex'.trans ex2).trans ex4).trans ex5) b o hb nb)
          · rw [List.length_append, List.length_singleton]; omega
        | false =>
          rw [if_neg Bool.false_ne_true] at q4 ⊢
          exact ⟨A4, acc, accV, ra4, (ex'.trans ex2).trans ex4, hD4.2, hD4.1, rv4, by omega, q4⟩
    · have e : i = xs.length := by omega
      subst e
      rw [List.drop_length] at hc
      obtain ⟨gA, hc⟩ : g A' ∧ newL A' acc Qd := hc
      have st0 : Stay A1 N H1 A' (hide N Dn) H' := ⟨fun b w t h => (ex' b w h (ra1.tup' t h)).1, fun b xs h => let q := ex'.rd h.1 h.2.1; ⟨q.1, q.2, fun z => z.elim h.2.2 fun z => by subst z; rcases h.1 with h | ⟨o, h⟩ <;> rw [nD] at h <;> cases h⟩, fun b xs h => let q := ex'.rd h.1 h.2.1; ⟨q.1, q.2, fun z => z.elim h.2.2 fun z => by subst z; rcases h.1 with h | ⟨o, h⟩ <;> rw [nD] at h <;> cases h⟩⟩
      have nN : ¬ N Dn := fun z => by obtain ⟨_, w, h⟩ := ra1.hid _ z; rw [nD] at h; cases h
      refine .inl ⟨wk.stops A' _ H' ra' st0 gA, ?_⟩
      refine hq (.ref Dn) (up A' Dn (.lst acc)) (.ref Dn) H' (rv_ref.mpr rfl) (ra'.show nN hD rv') ?_ (hc Dn nA')
      intro b o hb nb
      obtain ⟨h1, h2⟩ := (ex1.trans ex') b o hb nb
      have z : b ≠ Dn := by
        intro z
        subst z
        have h3 := (ex1 b o hb nb).1
        rw [nD] at h3
        cases h3
      rw [up_ne z]
      exact ⟨h1, h2⟩
variable {scope : Scope} {own : List (Str × Nat)} {pos spos py : Pos}
theorem de_comp (hi : DI L G n X tg iter k ies) (ok : BlkOk X.N X.env.scope scope own) (hvs : ∀ i ∈ slots t, i ∈ own.map (·.2))
    (hg : ∀ (s : Shared) (H : Hp) (C : Addr) (cl : List (Str × Addr)) (fp : List Addr), DG L G n (X.blk s H scope (compEnvC scope cl C X.env) fp) tg t)
    (ht : ∀ (s : Shared) (H : Hp) (C : Addr) (cl : List (Str × Addr)) (fp : List Addr), DTs L G n (X.blk s H scope (compEnvC scope cl C X.env) fp) ifs it)
    (he : ∀ (s : Shared) (H : Hp) (C : Addr) (cl : List (Str × Addr)) (fp : List Addr), DE L G n (X.blk s H scope (compEnvC scope cl C X.env) fp) elt ie)
    (hs : ∀ x, foldedSetIterable iter X.env x = pure x) : DE L G n X (.ListComp elt [⟨tg, iter, ifs, 0⟩] scope pos) (.comp k ies (own.map (·.2)) t it ie) := fun C W tk =>
  pe_imp (pe_lc (own := own) C.calm C.nd (hi C W tk) ok (fun s H c cl fp => hg s H c cl fp (C.blk _ _ _ _ _)) (fun s H c cl fp => ht s H c cl fp (C.blk _ _ _ _ _) W0 takes0) (fun s H c cl fp => he s H c cl fp (C.blk _ _ _ _ _) W0 takes0) hs)
    fun σ H Q h => tlc_of hvs (wpE (callN G n) G ie) (wpT (callN G n) G it) (wpEs (callN G n) G ies) (by
      obtain ⟨N, δ, A, Qd, Ed, rs, ra, h, hq, hx⟩ := h
      exact ⟨N, δ, A, Qd, Ed, rs, ra, h, hq, hx⟩) fun R q => q
end
end DL

set_option Elab.async false
set_option linter.all false
set_option maxRecDepth 100000
/-! statements; a def by its body; the law's end -/
namespace DL
open PySem PySem.Spec PyProof.Rows L2
def LS (L : Lk) (W : WX) (w : WS) : TS := fun D σ H => ∃ (N : Addr → Prop) (δ : DSt) (A : AH) (P : Pst), RS L.K A N H δ σ ∧ RA L A N H ∧ w P δ A ∧
  (∀ δ' A' σ' H', RS L.K A' N H' δ' σ' → RA L A' N H' → Ext A H A' H' → P.nx δ' A' → D.nx σ' H') ∧
  (∀ d A' v H', RV L.K A' N H' d v → RA L A' N H' → Ext A H A' H' → P.rt d A' → D.rt v H') ∧
  (∀ δ' A' σ' H', RS L.K A' N H' δ' σ' → RA L A' N H' → Ext A H A' H' → P.ct δ' A' → D.ct σ' H') ∧
  ∀ x δ' A' σ' H', RS L.K A' N H' δ' σ' → RA L A' N H' → Ext A H A' H' → P.ex x δ' A' → W (L.XV x) none σ' H'
abbrev Pso (X : Cx) : Prop := PassesOwn (model X.prog X.w) X.A X.env X.xe
def DS (L : Lk) (G : Gm) (n : Nat) (X : Cx) (st : Stmt) (i : IS) : Prop := Cn L G n X → Pso X → ∀ W, Takes X W → PS X st (LS L W (wpS (callN G n) G i))
def DSs (L : Lk) (G : Gm) (n : Nat) (X : Cx) (st : List Stmt) (i : List IS) : Prop := Cn L G n X → Pso X → ∀ W, Takes X W → PSs X st (LS L W (wpSs (callN G n) G i))
section
variable {L : Lk} {G : Gm} {n : Nat} {X : Cx} {x : Str} {pos p : Pos} {e a b o i : Expr} {es : List Expr} {st : Stmt} {sts body : List Stmt} {is : IS} {iss jss : List IS} {ie ia io ii : IE} {ies : List IE} {it : IT} {t : Tg} {k : SrcK}
theorem dss_nil : DSs L G n X [] [] := fun C po W tk => pss_imp pss_nil fun D σ H ⟨N, δ, A, P, rs, ra, h, hn, hr, hc, hx⟩ => hn δ A σ H rs ra (Ext.refl _ _) h
theorem dss_cons (h1 : DS L G n X st is) (h2 : DSs L G n X sts iss) : DSs L G n X (st :: sts) (is :: iss) := fun C po W tk =>
  pss_imp (pss_cons (h1 C po W tk) (h2 C po W tk)) fun D σ H ⟨N, δ, A, P, rs, ra, h, hn, hr, hc, hx⟩ =>
    ⟨N, δ, A, _, rs, ra, h, fun δ1 A1 σ1 H1 rs1 ra1 ex1 q1 => ⟨N, δ1, A1, P, rs1, ra1, q1, fun δ' A' σ' H' r1 r2 e q => hn δ' A' σ' H' r1 r2 (ex1.trans e) q, fun d A' v H' r1 r2 e q => hr d A' v H' r1 r2 (ex1.trans e) q,
      fun δ' A' σ' H' r1 r2 e q => hc δ' A' σ' H' r1 r2 (ex1.trans e) q, fun x δ' A' σ' H' r0 r e q => hx x δ' A' σ' H' r0 r (ex1.trans e) q⟩, hr, hc, hx⟩
/-- exceptions of an expression within a statement -/
theorem exq {W : WX} {N : Addr → Prop} {δ : DSt} {A : AH} {H : Hp} {σ : L2.St} {E : XP} (rs : RS L.K A N H δ σ) (ra : RA L A N H) (hx : ∀ x δ' A' σ' H', RS L.K A' N H' δ' σ' → RA L A' N H' → Ext A H A' H' → E x δ' A' → W (L.XV x) none σ' H') : ∀ x A' H', RA L A' N H' → Ext A H A' H' → E x δ A' → W (L.XV x) none σ H' := fun x A' H' r e q => hx x δ A' σ H' (rs.stay (e.stay ra)) r e q
theorem ds_set {j : Nat} (hi : X.N[j]? = some x) (hl : Loc X.env.scope x) (he : DE L G n X e ie) (hs : swapsWith e (some (.Name x p)) pos.line X.env = pure false) (hf : X.fn x = true ∨ X.env.scope.names.lookup x = some .local) : DS L G n X (.Assign [.Name x p] e pos) (.set j ie) := fun C po W tk =>
  ps_imp (ps_set C.nd hi hl (he C W tk) hs hf) fun D σ H ⟨N, δ, A, P, rs, ra, h, hn, hr, hc, hx⟩ =>
    LE.use rs ra h (fun d A1 v1 H1 rv1 ra1 ex1 rs1 q1 => hn _ A1 _ H1 (rs1.set rv1 j) ra1 ex1 q1) (exq rs ra hx)
theorem ds_tset {tg : Expr} (he : DE L G n X e ie) (hg : DG L G n X tg t) (hs : swapsWithSole [tg] e pos.line X.env = pure false) (hw : swappedStores [tg] e X.env = pure none) (h1 : (assignEach [tg] X.env).map (·.2) = [assign tg X.env]) : DS L G n X (.Assign [tg] e pos) (.tset t ie) := fun C po W tk =>
  ps_imp (ps_asg (he C W tk) (hg C) hs hw h1) fun D σ H ⟨N, δ, A, P, rs, ra, h, hn, hr, hc, hx⟩ =>
    LE.use rs ra h (fun d A1 v1 H1 rv1 ra1 ex1 rs1 q1 => ⟨N, d, δ, A1, _, rv1, rs1, ra1, q1, fun δ' σ' rs' _ q => hn δ' A1 σ' H1 rs' ra1 ex1 q⟩) (exq rs ra hx)
theorem len2 {ds : List D} (h : ds.length = 2) : ∃ d d', ds = [d, d'] := by
  match ds, h with
  | [d, d'], _ => exact ⟨d, d', rfl⟩
theorem len3 {ds : List D} (h : ds.length = 3) : ∃ d d' d'', ds = [d, d', d''] := by
  match ds, h with
  | [d, d', d''], _ => exact ⟨d, d', d'', rfl⟩
theorem ds_par2 {j l : Nat} {y : Str} {px py pt : Pos} {kt k2 : Nat} {pt2 : Pos} (hi : X.N[j]? = some x) (hj : X.N[l]? = some y) (hij : j ≠ l) (hx : X.env.scope.names.lookup x = some .local) (hy : X.env.scope.names.lookup y = some .local) (ha : DA L G n X [a, b] ies)
    (hw : swappedStores [.Tuple [.Name x px, .Name y py] kt pt] (.Tuple [a, b] k2 pt2) X.env = pure (some [x, y])) (hs : swapsWithSole [.Tuple [.Name x px, .Name y py] kt pt] (.Tuple [a, b] k2 pt2) pos.line X.env = pure false) :
    DS L G n X (.Assign [.Tuple [.Name x px, .Name y py] kt pt] (.Tuple [a, b] k2 pt2) pos) (.par [j, l] ies) := fun C po W tk =>
  ps_imp (ps_par C.calm C.nd hi hj hij hx hy (ha C W tk) hw hs) fun D σ H ⟨N, δ, A, P, rs, ra, h, hn, hr, hc, hx⟩ =>
    LAs.use rs ra h (fun ds A1 vs H1 rv1 ra1 ex1 rs1 q1 => by
      obtain ⟨hl, q1⟩ := q1
      obtain ⟨d, d', rfl⟩ := len2 hl
      obtain ⟨v, v', rfl, r1, r2⟩ := rvs2 rv1
      exact ⟨v, v', rfl, hn _ A1 _ H1 ((rs1.set r1 j).set r2 l) ra1 ex1 q1⟩) (exq rs ra hx)
theorem ds_par3 {j l m : Nat} {y z : Str} {c : Expr} {px py pz pt : Pos} {kt k2 : Nat} {pt2 : Pos} (hi : X.N[j]? = some x) (hj : X.N[l]? = some y) (hm : X.N[m]? = some z) (hij : j ≠ l) (him : j ≠ m) (hjm : l ≠ m) (hx : X.env.scope.names.lookup x = some .local) (hy : X.env.scope.names.lookup y = some .local)
    (hz : X.env.scope.names.lookup z = some .local) (ha : DA L G n X [a, b, c] ies)
    (hw : swappedStores [.Tuple [.Name x px, .Name y py, .Name z pz] kt pt] (.Tuple [a, b, c] k2 pt2) X.env = pure (some [x, y, z])) (hs : swapsWithSole [.Tuple [.Name x px, .Name y py, .Name z pz] kt pt] (.Tuple [a, b, c] k2 pt2) pos.line X.env = pure false) :
    DS L G n X (.Assign [.Tuple [.Name x px, .Name y py, .Name z pz] kt pt] (.Tuple [a, b, c] k2 pt2) pos) (.par [j, l, m] ies) := fun C po W tk =>
  ps_imp (ps_par3 C.calm C.nd hi hj hm hij him hjm hx hy hz (ha C W tk) hw hs) fun D σ H ⟨N, δ, A, P, rs, ra, h, hn, hr, hc, hx⟩ =>
    LAs.use rs ra h (fun ds A1 vs H1 rv1 ra1 ex1 rs1 q1 => by
      obtain ⟨hl, q1⟩ := q1
      obtain ⟨d, d', d'', rfl⟩ := len3 hl
      obtain ⟨v, vr, rfl, r1, rr⟩ := rv1.cons'
      obtain ⟨v', v'', rfl, r2, r3⟩ := rvs2 rr
      exact ⟨v, v', v'', rfl, hn _ A1 _ H1 (((rs1.set r1 j).set r2 l).set r3 m) ra1 ex1 q1⟩) (exq rs ra hx)
theorem RA.dput {L : Lk} {A : AH} {N : Addr → Prop} {H : Hp} {o : AO} {a : Addr} {kvs : List (Key × DL.D)} {ws : List (Key × V)} (ra : RA L A N H) (e : A a = some o) (r : RKs L.K A N H kvs ws) : RA L (up A a (.dk kvs)) N (upd H a (.dK ws)) :=
  ra.put e ⟨ws, upd_same, r.stay ((Ext.put e).stay ra)⟩
def rSetA (o i v : V) (H : Hp) (Q : Hp → Prop) : Prop := rSetL o i v H Q ∨ ∃ a ws k, o = .ref a ∧ i = kV k ∧ H a = some (.dK ws) ∧ ws.length < sizeLine ∧ Q (upd H a (.dK (putK ws k v)))
theorem set_all (hu : X.A.units + 1 < cLine) : PSet X rSetA := by
  intro pins s σ H o i v ov iv u Q I ro ri rv h
  rcases h with h | ⟨a, ws, k, rfl, rfl, h1, h2, q⟩
  · exact set_list pins s σ H o i v ov iv u Q I ro ri rv h
  · cases ro
    exact d_setItem hu I (DPut.k h1 h2) ri rv fun s' I' => ⟨_, I', q⟩
theorem ds_sub {sp : Pos} (he : DE L G n X e ie) (ho : DE L G n X o io) (hi : DE L G n X i ii)
    (ha : ∀ v, assign (.Subscript o i sp) X.env v = (do
      let ov ← holding [v] (eval o X.env)
      let iv ← holding [v, ov] (eval i X.env)
      standAt sp
      holding [v, ov, iv] (setItem ov iv v)
      release [v, ov, iv] []))
    (hs : swapsWithSole [.Subscript o i sp] e pos.line X.env = pure false) (hw : swappedStores [.Subscript o i sp] e X.env = pure none) (h1 : (assignEach [.Subscript o i sp] X.env).map (·.2) = [assign (.Subscript o i sp) X.env]) :
    DS L G n X (.Assign [.Subscript o i sp] e pos) (.sub io ii ie) := fun C po W tk =>
  ps_imp (ps_asg (he C W tk) (pg_sub (ho C W tk) (hi C W tk) (set_all (hu_of C.room)) ha) hs hw h1) fun D σ H ⟨N, δ, A, P, rs, ra, h, hn, hr, hc, hx⟩ =>
    LE.use rs ra h (fun d A1 v1 H1 rv1 ra1 ex1 rs1 q1 => LE.use rs1 ra1 q1 (fun d2 A2 v2 H2 rv2 ra2 ex2 rs2 q2 => LE.use rs2 ra2 q2 (fun d3 A3 v3 H3 rv3 ra3 ex3 rs3 q3 => by
      have r1 := RV.stay (ex3.stay ra2) _ _ (RV.stay (ex2.stay ra1) _ _ rv1)
      have r2 := RV.stay (ex3.stay ra2) _ _ rv2
      have dict : ∀ (q : Addr) (ky : Key) (kvs : List (Key × DL.D)), v2 = .ref q → v3 = kV ky → A3 q = some (.dk kvs) → kvs.length < sizeLine ∧ P.nx δ (up A3 q (.dk (putD kvs ky d))) → rSetA v2 v3 v1 H3 fun H3 => D.nx σ H3 := fun q ky kvs e2 e3 e q3 => by
        obtain ⟨ws, h1, h2⟩ := ra3 q _ e
        exact .inr ⟨q, ws, ky, e2, e3, h1, by rw [← h2.len]; exact q3.1, hn δ _ σ _ (rs3.stay ((Ext.put e).stay ra3)) (ra3.dput e (h2.put ky r1)) (((ex1.trans ex2).trans ex3).trans (Ext.put e)) q3.2⟩
      unfold dSub at q3
      split at q3
      · next q j =>
        split at q3
        · next xs e =>
          split at q3
          · next l el =>
            obtain ⟨ws, h1, h2⟩ := ra3 q _ e
            rw [rv_ref.mp r2, rv_int.mp rv3]
            refine .inl ⟨q, ws, j, l, rfl, rfl, h1, by rw [← h2.length]; exact el, hn δ _ σ _ (rs3.stay ((Ext.put e).stay ra3)) (ra3.lput e (RVs.set r1 l h2)) (((ex1.trans ex2).trans ex3).trans (Ext.put e)) q3⟩
          · exact q3.elim
        · next kvs e => exact dict q (.inl j) kvs (rv_ref.mp r2) (rv_int.mp rv3) e q3
        · exact q3.elim
      · next q z =>
        split at q3
        · next kvs e => exact dict q (.inr z) kvs (rv_ref.mp r2) (rv_str.mp rv3) e q3
        · exact q3.elim
      · exact q3.elim) (exq rs2 ra2 fun x δ' A' σ' H' r0 r e q => hx x δ' A' σ' H' r0 r ((ex1.trans ex2).trans e) q)) (exq rs1 ra1 fun x δ' A' σ' H' r0 r e q => hx x δ' A' σ' H' r0 r (ex1.trans e) q)) (exq rs ra hx)
theorem ds_expr (he : DE L G n X e ie) (hs : swapsWith e none pos.line X.env = pure false) : DS L G n X (.Expr e pos) (.expr ie) := fun C po W tk =>
  ps_imp (ps_expr (he C W tk) hs) fun D σ H ⟨N, δ, A, P, rs, ra, h, hn, hr, hc, hx⟩ => LE.use rs ra h (fun d A1 v1 H1 rv1 ra1 ex1 rs1 q1 => hn δ A1 σ H1 rs1 ra1 ex1 q1) (exq rs ra hx)
theorem ds_ret (he : DE L G n X e ie) : DS L G n X (.Return (some e) pos) (.ret ie) := fun C po W tk =>
  ps_imp (ps_ret (he C W tk)) fun D σ H ⟨N, δ, A, P, rs, ra, h, hn, hr, hc, hx⟩ => LE.use rs ra h (fun d A1 v1 H1 rv1 ra1 ex1 rs1 q1 => hr d A1 v1 H1 rv1 ra1 ex1 q1) (exq rs ra hx)
theorem LS.later {W : WX} {w : WS} {N : Addr → Prop} {D : Ends} {σ : L2.St} {H H1 : Hp} {δ : DSt} {A A1 : AH} {P : Pst} (rs1 : RS L.K A1 N H1 δ σ) (ra1 : RA L A1 N H1) (ex1 : Ext A H A1 H1) (h : w P δ A1)
    (hn : ∀ δ' A' σ' H', RS L.K A' N H' δ' σ' → RA L A' N H' → Ext A H A' H' → P.nx δ' A' → D.nx σ' H') (hr : ∀ d A' v H', RV L.K A' N H' d v → RA L A' N H' → Ext A H A' H' → P.rt d A' → D.rt v H')
    (hc : ∀ δ' A' σ' H', RS L.K A' N H' δ' σ' → RA L A' N H' → Ext A H A' H' → P.ct δ' A' → D.ct σ' H') (hx : ∀ x δ' A' σ' H', RS L.K A' N H' δ' σ' → RA L A' N H' → Ext A H A' H' → P.ex x δ' A' → W (L.XV x) none σ' H') : LS L W w D σ H1 :=
  ⟨N, δ, A1, P, rs1, ra1, h, fun δ' A' σ' H' r1 r2 e q => hn δ' A' σ' H' r1 r2 (ex1.trans e) q, fun d A' v H' r1 r2 e q => hr d A' v H' r1 r2 (ex1.trans e) q, fun δ' A' σ' H' r1 r2 e q => hc δ' A' σ' H' r1 r2 (ex1.trans e) q, fun x δ' A' σ' H' r0 r e q => hx x δ' A' σ' H' r0 r (ex1.trans e) q⟩
theorem ds_if {c : Expr} {bs : List Stmt} (ht : DT L G n X c it) (ha : DSs L G n X body iss) (hb : DSs L G n X bs jss) : DS L G n X (.If c body bs pos) (.iff it iss jss) := fun C po W tk =>
  ps_imp (ps_if (ht C W tk) (ha C po W tk) (hb C po W tk)) fun D σ H ⟨N, δ, A, P, rs, ra, h, hn, hr, hc, hx⟩ =>
    LT.use rs ra h (fun k A1 H1 ra1 ex1 rs1 q1 => by
      cases k with
      | true => rw [if_pos rfl] at q1 ⊢; exact LS.later rs1 ra1 ex1 q1 hn hr hc hx
      | false => rw [if_neg Bool.false_ne_true] at q1 ⊢; exact LS.later rs1 ra1 ex1 q1 hn hr hc hx) (exq rs ra hx)
theorem ds_for {tg iter : Expr} (hi : DI L G n X tg iter k ies) (hg : DG L G n X tg t) (hb : DSs L G n X body iss) (hs : ∀ x, foldedSetIterable iter X.env x = pure x) : DS L G n X (.For tg iter body [] pos) (.for k ies t iss) := fun C po W tk =>
  ps_imp (ps_for po C.calm (hi C W tk) (hg C) (hb C po W tk) hs) fun D σ H ⟨N, δ, A, P, rs, ra, h, hn, hr, hc, hx⟩ => by
    refine ⟨N, δ, A, fun xs g A1 => dFor t g (wpSs (callN G n) G iss) xs P δ A1, _, rs, ra, h, fun xs g A1 H1 J wk ra1 ex1 q1 => ?_, exq rs ra hx⟩
    refine ⟨fun i m σ' H' => m = xs.length - i ∧ i ≤ xs.length ∧ ∃ δ' A', RS L.K A' N H' δ' σ' ∧ RA L A' N H' ∧ Ext A1 H1 A' H' ∧ dFor t g (wpSs (callN G n) G iss) (xs.drop i) P δ' A', ⟨_, rfl, Nat.zero_le _, δ, A1, rs.stay (ex1.stay ra), ra1, Ext.refl _ _, q1⟩, ?_⟩
    rintro i m σ' H' ⟨rfl, hi, δ', A', rs', ra', ex', q⟩
    by_cases hlt : i < xs.length
    · rw [List.drop_eq_getElem_cons hlt] at q
      obtain ⟨gA, q⟩ : g A' ∧ gAsg t xs[i] δ' A' (fun δ'' => wpSs (callN G n) G iss ⟨fun δ2 A2 => dFor t g (wpSs (callN G n) G iss) (xs.drop (i + 1)) P δ2 A2, P.rt, fun δ2 A2 => dFor t g (wpSs (callN G n) G iss) (xs.drop (i + 1)) P δ2 A2, P.ex⟩ δ'' A') := q
      refine .inr ⟨wk.goes i A' N H' hlt ra' (ex'.stay ra1) gA, fun σ'' H'' => (∃ δ' A', RS L.K A' N H'' δ' σ'' ∧ RA L A' N H'' ∧ Ext A1 H1 A' H'' ∧ dFor t g (wpSs (callN G n) G iss) (xs.drop (i + 1)) P δ' A'), fun σ'' H'' q => ⟨xs.length - (i + 1), by omega, rfl, hlt, q⟩, fun x H2 hy => ?_⟩
      obtain ⟨d, e1, rx, ra2, ex2⟩ := wk.yields i x A' N H' H2 hlt ra' (ex'.stay ra1) gA hy
      rw [List.getElem?_eq_getElem hlt] at e1
      cases e1
      have e02 := ex1.trans (ex'.trans ex2)
      refine ⟨N, _, δ', A', _, rx, rs'.stay (ex2.stay ra'), ra2, q, fun δ3 σ3 rs3 _ q3 => ⟨N, δ3, A', _, rs3, ra2, q3, fun δ4 A4 σ4 H4 r1 r2 e q => ⟨δ4, A4, r1, r2, (ex'.trans ex2).trans e, q⟩, fun d A4 v H4 r1 r2 e q => hr d A4 v H4 r1 r2 (e02.trans e) q, fun δ4 A4 σ4 H4 r1 r2 e q => ⟨δ4, A4, r1, r2, (ex'.trans ex2).trans e, q⟩, fun x δ4 A4 σ4 H4 r0 r e q => hx x δ4 A4 σ4 H4 r0 r (e02.trans e) q⟩⟩
    · have e : i = xs.length := by omega
      subst e
      rw [List.drop_length] at q
      obtain ⟨gA, q⟩ : g A' ∧ P.nx δ' A' := q
      exact .inl ⟨wk.stops A' N H' ra' (ex'.stay ra1) gA, hn δ' A' σ' H' rs' ra' (ex1.trans ex') q⟩
theorem ds_while {c : Expr} (ht : DT L G n X c it) (hb : DSs L G n X body iss) : DS L G n X (.While c body [] pos) (.whil it iss) := fun C po W tk =>
  ps_imp (ps_while po (ht C W tk) (hb C po W tk)) fun D σ H ⟨N, δ, A, P, rs, ra, h, hn, hr, hc, hx⟩ => by
    obtain ⟨m0, h⟩ := h
    refine ⟨fun m σ' H' => ∃ δ' A', RS L.K A' N H' δ' σ' ∧ RA L A' N H' ∧ Ext A H A' H' ∧ dWhile (wpT (callN G n) G it) (wpSs (callN G n) G iss) m P δ' A', ⟨m0, δ, A, rs, ra, Ext.refl _ _, h⟩, ?_⟩
    rintro m σ' H' ⟨δ', A', rs', ra', ex', q⟩
    cases m with
    | zero => exact (show False from q).elim
    | succ m =>
      refine LT.use rs' ra' q (fun k A1 H1 ra1 ex1 rs1 q1 => ?_) (exq rs' ra' fun x δ1 A1 σ1 H1 r0 r e q => hx x δ1 A1 σ1 H1 r0 r (ex'.trans e) q)
      have e01 := ex'.trans ex1
      cases k with
      | true =>
        rw [if_pos rfl] at q1 ⊢
        exact ⟨fun σ'' H'' => ∃ δ' A', RS L.K A' N H'' δ' σ'' ∧ RA L A' N H'' ∧ Ext A H A' H'' ∧ dWhile (wpT (callN G n) G it) (wpSs (callN G n) G iss) m P δ' A', fun σ'' H'' q => ⟨m, Nat.lt_succ_self _, q⟩,
          N, δ', A1, _, rs1, ra1, q1, fun δ4 A4 σ4 H4 r1 r2 e q => ⟨δ4, A4, r1, r2, e01.trans e, q⟩, fun d A4 v H4 r1 r2 e q => hr d A4 v H4 r1 r2 (e01.trans e) q, fun δ4 A4 σ4 H4 r1 r2 e q => ⟨δ4, A4, r1, r2, e01.trans e, q⟩, fun x δ4 A4 σ4 H4 r0 r e q => hx x δ4 A4 σ4 H4 r0 r (e01.trans e) q⟩
      | false => rw [if_neg Bool.false_ne_true] at q1 ⊢; exact hn δ' A1 σ' H1 rs1 ra1 e01 q1
end

/-! ### defs -/
/-- what is known of a def of the table: its text, its slots, its body by the small language -/
structure Def1 (L : Lk) (G : Gm) (P : Program) (w : World) (mg : Str → Option Value) (f : Nat) (fd : FnD) (fdt : FuncData) (ps : List Str) : Prop where
  ex : ∃ (x qual : Str) (st : Stmt) (N : List Str), Fun L.K x qual st (L.FA f) fdt ∧ FnScope N ps (defScope st) ∧ ps.length = fd.np ∧ N.length = fd.ns ∧ Binds L.K fdt ps [] ∧
    ∀ (n : Nat) (base : Heap) (cdv : Value) (A : Around) (outer : List Env) (s : Shared) (H : Hp) (E : XK), DSs L G n (cxOf (L2.CX P w) P w L.K mg base N qual (defScope st) (L.FA f) cdv A outer s H E) (defBody st) fd.body
theorem rs_start {K : PySem.W.Frag} {A : AH} {N0 : Addr → Prop} {H : Hp} {ds : List D} {vs : List V} (r : RVs K A N0 H ds vs) (N : List Str) : RS K A N0 H (startD N.length ds) (L2.start N vs) := by
  have hl := r.length
  refine ⟨?_, fun i d e => ?_⟩
  · unfold startD L2.start
    simp only [List.length_append, List.length_map, List.length_replicate]
    omega
  · unfold startD at e
    unfold L2.start
    by_cases hi : i < ds.length
    · rw [List.getElem?_append_left (by rw [List.length_map]; exact hi), List.getElem?_map, List.getElem?_eq_getElem hi] at e
      have e : some (some ds[i]) = some (some d) := e
      cases e
      obtain ⟨v, e1, e2⟩ := RVs.get r (List.getElem?_eq_getElem hi)
      exact ⟨v, by rw [List.getElem?_append_left (by rw [List.length_map]; omega), List.getElem?_map, e1]; rfl, e2⟩
    · rw [List.getElem?_append_right (by rw [List.length_map]; omega), List.getElem?_replicate] at e
      split at e <;> cases e
theorem def_ok {L : Lk} {G : Gm} {P : Program} {w : World} {mg : Str → Option Value} {base : Heap} {n f : Nat} {fd : FnD} {fdt : FuncData} {ps : List Str} (h : Def1 L G P w mg f fd fdt ps) (hf : G.fn f = some fd) (ih : Fns L G n P w L.K mg base) (hcl : ∀ C cd, G.cl C = some cd → ClOk L G C cd) :
    FnOk P w L.K mg base (L2.CX P w) (2 * (n + 1)) (L.FA f) fdt ps (spD L (callN G (n + 1)) f) := by
  obtain ⟨x, qual, st, N, F, S, h1, h2, hb, hd⟩ := h.ex
  refine F.okX S (fun vs H Q E ⟨N, ds, A, Qd, Ed, rv, ra, z, _⟩ => ?_) (fun cdv A outer s H vs Q E hr hsp => ?_)
  · unfold callN at z
    rw [hf] at z
    rw [← rv.length, z.1, h1]
  · obtain ⟨N0, ds, A0, Qd, Ed, rv, ra, z, hq, hx⟩ := hsp
    unfold callN at z
    rw [hf] at z
    obtain ⟨z1, z2⟩ := z
    let X : Cx := cxOf (L2.CX P w) P w L.K mg base N qual (defScope st) (L.FA f) cdv A outer s H E
    have C : Cn L G n X := ⟨rfl, rfl, hr, S.nd, ih, hcl⟩
    have tk : Takes X (fun cls d _ H => E cls d H) := takes_of rfl rfl rfl rfl
    refine ⟨_, hd n base cdv A outer s H E C (passes_of (E₁ := _) rfl) _ tk, N0, startD fd.ns ds, A0, _, ?_, ra, z2, ?_, ?_, ?_, ?_⟩
    · rw [← h2]; exact rs_start rv N
    · intro δ' A' σ' H' _ r2 e ⟨B, sb, q⟩
      exact hq .non B .non H' (rv_non.mpr rfl) (r2.sub sb) (e.sub sb) q
    · intro d A' v H' r1 r2 e ⟨B, sb, q⟩
      exact hq d B v H' (RV.stay (.sub sb) _ _ r1) (r2.sub sb) (e.sub sb) q
    · intro _ _ _ _ _ _ _ q
      exact q.elim
    · intro x δ' A' σ' H' r0 r e ⟨B, sb, q⟩
      exact hx x B H' (r.sub sb) (e.sub sb) q
theorem fns_ok {L : Lk} {G : Gm} {P : Program} {w : World} {mg : Str → Option Value} {base : Heap} (h : ∀ f fd, G.fn f = some fd → ∃ fdt ps, Def1 L G P w mg f fd fdt ps) (hcl : ∀ C cd, G.cl C = some cd → ClOk L G C cd) : ∀ n, Fns L G n P w L.K mg base := by
  intro n
  induction n with
  | zero =>
    intro f fd hf
    obtain ⟨fdt, ps, D⟩ := h f fd hf
    obtain ⟨x, qual, st, N, F, S, h1, h2, hb, hd⟩ := D.ex
    exact ⟨fdt, ps, ⟨fun vs H Q E ⟨N, ds, A, Qd, Ed, _, _, z, _⟩ => (show False from z).elim, fun A outer s H args us vs Q E _ _ _ _ ⟨N, ds, A, Qd, Ed, _, _, z, _⟩ => (show False from z).elim⟩, hb, F.kp⟩
  | succ n ih =>
    intro f fd hf
    obtain ⟨fdt, ps, D⟩ := h f fd hf
    have D' := D
    obtain ⟨x, qual, st, N, F, S, h1, h2, hb, hd⟩ := D'.ex
    exact ⟨fdt, ps, def_ok D hf ih hcl, hb, F.kp⟩
/-- a table of defs, each with what is known of it -/
def AllD (R : Nat → FnD → Prop) : List (Nat × FnD) → Prop
  | [] => True
  | p :: r => R p.1 p.2 ∧ AllD R r
theorem allD_get {R : Nat → FnD → Prop} : ∀ {t : List (Nat × FnD)}, AllD R t → ∀ f fd, t.lookup f = some fd → R f fd
  | [], _, f, fd, h => by cases h
  | p :: r, hA, f, fd, h => by
    rw [show (p :: r).lookup f = match f == p.1 with | true => some p.2 | false => r.lookup f from rfl] at h
    cases e : f == p.1 with
    | true =>
      rw [e] at h
      cases h
      rw [eq_of_beq e]
      exact hA.1
    | false =>
      rw [e] at h
      exact allD_get hA.2 f fd h
end DL

set_option Elab.async false
set_option linter.all false
set_option maxRecDepth 100000
/-! short rules, and a law's end -/
namespace DL
open PySem PySem.Spec PyProof.Rows L2
section
variable {L : Lk} {G : Gm} {n : Nat} {X : Cx} {x : Str} {pos p p2 : Pos} {e a b c o i : Expr} {es : List Expr} {ie ia ib ic io ii : IE} {ies : List IE} {it : IT} {t : Tg} {k : SrcK}
theorem v_ {i : Nat} (hN : X.N[i]? = some x := by rfl) (hv : Vis X.env.scope x := by first | exact Or.inl rfl | exact Or.inr (Or.inl rfl) | exact Or.inr (Or.inr rfl)) (hd : (x == ("__debug__" : Str)) = false := by decide) (hcd : (x == ("__classdict__" : Str)) = false := by decide) : DE L G n X (.Name x pos) (.var i) := de_var hN hv hd hcd
theorem c_gint {i : Int} (hm : ∃ t, X.mg x = some (.int i t)) (hg : Gl X x := by rfl) (hd : (x == ("__debug__" : Str)) = false := by decide) : DE L G n X (.Name x pos) (.cst (.int i)) := let ⟨_, h⟩ := hm; de_gint hg h hd
theorem a_ (ha : DE L G n X e ie) (hr : DA L G n X es ies) (hs : starEach (e :: es) X.env = (false, eval e X.env) :: starEach es X.env := by rfl) : DA L G n X (e :: es) (ie :: ies) := da_cons ha hr hs
theorem o_add (ha : DE L G n X a ia) (hb : DE L G n X b ib) : DE L G n X (.BinOp a .Add b pos) (.bin .add ia ib) := de_bin op_addD (fun h => by rw [h]; exact dop_add) ha hb
theorem o_sub (ha : DE L G n X a ia) (hb : DE L G n X b ib) : DE L G n X (.BinOp a .Sub b pos) (.bin .sub ia ib) := de_bin op_sub (fun _ => dop_sub) ha hb
theorem o_mul (ha : DE L G n X a ia) (hb : DE L G n X b ib) : DE L G n X (.BinOp a .Mult b pos) (.bin .mul ia ib) := de_bin op_mulD (fun h => by rw [h]; exact dop_mul) ha hb
theorem o_fdiv (ha : DE L G n X a ia) (hb : DE L G n X b ib) : DE L G n X (.BinOp a .FloorDiv b pos) (.bin .fdiv ia ib) := de_bin op_fdiv (fun _ => dop_fdiv) ha hb
theorem o_mod (ha : DE L G n X a ia) (hb : DE L G n X b ib) : DE L G n X (.BinOp a .Mod b pos) (.bin .mod ia ib) := de_bin op_mod (fun _ => dop_mod) ha hb
/-- a comparison's two rules, packed -/
structure CmpR (L : Lk) (X : Cx) (op : CmpOp) (o : CO) : Prop where
  ex : ∃ r, OpR X (compareOp op) r ∧ (X.K = L.K → DOp L r (dCmp o))
theorem k_lt : CmpR L X .Lt .lt := ⟨_, op_lt, fun _ => dop_lt⟩
theorem k_le : CmpR L X .LtE .le := ⟨_, op_le, fun _ => dop_le⟩
theorem k_gt : CmpR L X .Gt .gt := ⟨_, op_gt, fun _ => dop_gt⟩
theorem k_ge : CmpR L X .GtE .ge := ⟨_, op_ge, fun _ => dop_ge⟩
theorem cmpE {op : CmpOp} {o : CO} (r : CmpR L X op o) (ha : DE L G n X a ia) (hb : DE L G n X b ib) (hm : behindInMarks op b = false := by rfl) : DE L G n X (.Compare a [op] [b] pos) (.cmp o ia ib) :=
  let ⟨_, h1, h2⟩ := r.ex; de_cmp h1 h2 hm ha hb
theorem cmpT {op : CmpOp} {o : CO} (r : CmpR L X op o) (ha : DE L G n X a ia) (hb : DE L G n X b ib) (hm : behindInMarks op b = false := by rfl) : DT L G n X (.Compare a [op] [b] pos) (.val (.cmp o ia ib)) :=
  let ⟨_, h1, h2⟩ := r.ex; dt_cmp h1 h2 hm ha hb
theorem eqT (ha : DE L G n X a ia) (hb : DE L G n X b ib) (hm : behindInMarks .Eq b = false := by rfl) : DT L G n X (.Compare a [.Eq] [b] pos) (.val (.cmp .eq ia ib)) := fun C => dt_cmp (op_eqD C.room.units) (fun h => by rw [h]; exact dop_eq) hm ha hb C
theorem neT (ha : DE L G n X a ia) (hb : DE L G n X b ib) (hm : behindInMarks .NotEq b = false := by rfl) : DT L G n X (.Compare a [.NotEq] [b] pos) (.val (.cmp .ne ia ib)) := fun C => dt_cmp (op_neD C.room.units) (fun h => by rw [h]; exact dop_ne) hm ha hb C
theorem chnT {op op' : CmpOp} {o p : CO} (r : CmpR L X op o) (r' : CmpR L X op' p) (ha : DE L G n X a ia) (hb : DE L G n X b ib) (hc : DE L G n X c ic) (hm : lastMarks [op, op'] [b, c] = false := by with_unfolding_all rfl) : DT L G n X (.Compare a [op, op'] [b, c] pos) (.val (.chn o p ia ib ic)) :=
  let ⟨_, h1, h2⟩ := r.ex; let ⟨_, h3, h4⟩ := r'.ex; dt_chn h1 h3 h2 h4 hm ha hb hc
/-- an expression's truth as a test -/
theorem tv (ha : DE L G n X a ia) (he : ∀ whole, isTrue a X.env whole = (do let v ← whole; standAt a.pos; holding [v] (truthy v)) := by intro _; rfl) : DT L G n X a (.val ia) := dt_val ha he
/-- built-in functions -/
structure BiR (L : Lk) (X : Cx) (x : Str) (v : Value) (k : BI) : Prop where
  ex : (∃ id, v = .builtin id ∧ ∃ r, (X.calm = true → CallR X (.builtin id) r) ∧ (X.K = L.K → DBi L r (dBi k))) ∨ ∃ T, v = .type T ∧ ∃ r, (X.calm = true → CallR X (.type T) r) ∧ (X.K = L.K → DBi L r (dBi k))
  boot : bootBuiltins x = some v
  n1 : x ≠ "__name__"
  n2 : (x == ("__debug__" : Str)) = false
theorem b_len : BiR L X "len" (.builtin "len") .len := ⟨.inl ⟨_, rfl, _, fun _ => cr_len, fun h => by rw [h]; exact db_len⟩, by decide +kernel, by decide, by decide⟩
theorem b_sum : BiR L X "sum" (.builtin "sum") .sum := ⟨.inl ⟨_, rfl, _, cr_sum, fun h => by rw [h]; exact db_sum⟩, by decide +kernel, by decide, by decide⟩
theorem b_any : BiR L X "any" (.builtin "any") .any := ⟨.inl ⟨_, rfl, _, cr_any, fun h => by rw [h]; exact db_any⟩, by decide +kernel, by decide, by decide⟩
theorem b_sorted : BiR L X "sorted" (.builtin "sorted") .sorted := ⟨.inl ⟨_, rfl, _, fun _ => cr_srt, fun h => by rw [h]; exact db_sorted⟩, by decide +kernel, by decide, by decide⟩
theorem b_min2 : BiR L X "min" (.builtin "min") .min2 := ⟨.inl ⟨_, rfl, _, call_min2, fun _ => db_min2⟩, by decide +kernel, by decide, by decide⟩
theorem b_max2 : BiR L X "max" (.builtin "max") .max2 := ⟨.inl ⟨_, rfl, _, call_max2, fun _ => db_max2⟩, by decide +kernel, by decide, by decide⟩
theorem b_tuple : BiR L X "tuple" (.type "tuple") .tuple := ⟨.inr ⟨_, rfl, _, fun _ => call_tuple_of, fun h => by rw [h]; exact db_tuple⟩, by decide +kernel, by decide, by decide⟩
theorem bi_ {v : Value} {k : BI} (r : BiR L X x v k) (hm : X.mg x = none) (ha : DA L G n X (e :: es) ies) (hg : Gl X x := by rfl) (he : starEach (e :: es) X.env = (false, eval e X.env) :: starEach es X.env := by rfl)
    (hpl : (backTo pos (starEach es X.env)).any (·.1) = false := by rfl) : DE L G n X (.Call (.Name x p) (e :: es) [] pos) (.bi k ies) := by
  obtain ⟨⟨id, rfl, r', h1, h2⟩ | ⟨T, rfl, r', h1, h2⟩, hv, n1, n2⟩ := r
  · exact de_bi h1 h2 hg hm hv ha n1 n2 he hpl
  · exact de_biT h1 h2 hg hm hv ha n1 n2 he hpl
theorem r2_ (hm : X.mg "range" = none) (ha : DE L G n X a ia) (hb : DE L G n X b ib) (hg : Gl X "range" := by rfl) (na : starEach [a, b] X.env = (false, eval a X.env) :: starEach [b] X.env := by rfl) (nb : starEach [b] X.env = (false, eval b X.env) :: starEach [] X.env := by rfl)
    (hp : (backTo pos (starEach [b] X.env)).any (·.1) = false := by rfl) : DRg L G n X (.Call (.Name "range" p) [a, b] [] pos) [ia, ib] := drg_2 hg hm ha hb na nb hp
theorem lrg_ (hm : X.mg "list" = none) (he : DRg L G n X e ies) (hg : Gl X "list" := by rfl) (na : starEach [e] X.env = (false, eval e X.env) :: starEach [] X.env := by rfl) : DE L G n X (.Call (.Name "list" p) [e] [] pos) (.rgl false ies) := de_lrg hg hm he na
theorem ix_ (ha : DE L G n X a ia) (hb : DE L G n X b ib) (hs : PlainIx b := by intro _ _; rfl) : DE L G n X (.Subscript a b pos) (.ix ia ib) := de_ix ha hb hs
/-- methods of lists, packed -/
structure BmR (X : Cx) (L : Lk) (name : Str) (m : BM) : Prop where
  ex : ∃ id r, Slot "list" name id ∧ typeOf (.builtin id) = pure (.type "method_descriptor") ∧ MtM X id r ∧ DBm L r m ∧ tyB m = .list
theorem m_append : BmR X L "append" .append := ⟨_, _, PySem.F.slot_list_append, PySem.F.type_list_append, mt_append, dbm_append, rfl⟩
theorem m_extend : BmR X L "extend" .extend := ⟨_, _, PySem.F.slot_list_extend, PySem.F.type_list_extend, mt_extR, dbm_extend, rfl⟩
theorem m_pop : BmR X L "pop" .pop := ⟨_, _, PySem.F.slot_list_pop, PySem.F.type_list_pop, mt_pop, dbm_pop, rfl⟩
theorem bm_ {name : Str} {m : BM} {apos cpos : Pos} (r : BmR X L name m) (ho : DE L G n X o io) (ha : DA L G n X (e :: es) ies) (hbase : attributeBase o name X.env (eval o X.env) = eval o X.env := by rfl)
    (hfew : ((backTo cpos (starEach (e :: es) X.env)).all (fun x => !x.1) && (backToKw cpos (keywordEach [] X.env)).all (fun x => x.1.isSome) && decide ((e :: es).length + ([] : List Keyword).length + (if ([] : List Keyword).isEmpty then 0 else 1) < 30)) = true := by rfl)
    (hline : (apos.endLine == cpos.line) = true := by rfl) (hs : starEach (e :: es) X.env = (false, eval e X.env) :: starEach es X.env := by rfl) (hplain : (backTo cpos (starEach es X.env)).any (·.1) = false := by rfl) :
    DE L G n X (.Call (.Attribute o name apos) (e :: es) [] cpos) (.bm m io ies) := by
  obtain ⟨id, rr, h1, h2, h3, h4, h5⟩ := r.ex
  exact de_bm PySem.F.plainAttrs_list h1 h2 h3 h4 h5 ho ha hbase hfew hline hs hplain
theorem bm0_ {name : Str} {m : BM} {apos cpos : Pos} (r : BmR X L name m) (ho : DE L G n X o io) (hbase : attributeBase o name X.env (eval o X.env) = eval o X.env := by rfl) (hline : (apos.endLine == cpos.line) = true := by rfl) :
    DE L G n X (.Call (.Attribute o name apos) [] [] cpos) (.bm m io []) := by
  obtain ⟨id, rr, h1, h2, h3, h4, h5⟩ := r.ex
  exact de_bm0 PySem.F.plainAttrs_list h1 h2 h3 h4 h5 ho hbase hline
theorem f_ {f : Nat} {fd : FnD} (hm : X.mg x = some (.ref (L.FA f))) (ha : DA L G n X (e :: es) ies) (hG : G.fn f = some fd := by rfl) (hg : Gl X x := by rfl) (hdb : (x == ("__debug__" : Str)) = false := by decide)
    (he : starEach (e :: es) X.env = (false, eval e X.env) :: starEach es X.env := by rfl) (hpl : (backTo pos (starEach es X.env)).any (·.1) = false := by rfl) : DE L G n X (.Call (.Name x p) (e :: es) [] pos) (.call f ies) := de_call hG hg hm ha hdb he hpl
/-- targets -/
theorem g_ {i : Nat} (hi : X.N[i]? = some x := by rfl) (hx : Loc X.env.scope x := by first | exact Or.inl rfl | exact Or.inr rfl) (hf : X.fn x = true ∨ X.env.scope.names.lookup x = some .local := by first | exact .inl rfl | exact .inr rfl) : DG L G n X (.Name x pos) (.nm i) := dg_name hi hx hf
theorem gs_ {ts : List Tg} (h1 : DG L G n X e t) (h2 : DGs L G n X es ts) (hs : (assignEach (e :: es) X.env).map (·.2) = assign e X.env :: (assignEach es X.env).map (·.2) := by rfl) : DGs L G n X (e :: es) (t :: ts) := dgs_cons h1 h2 hs
theorem gt_ {ts : List Tg} {k : Nat} (h : DGs L G n X es ts) (hn : (assignEach es X.env).length = ts.length := by rfl) (hst : (assignEach es X.env).findIdx? (·.1) = none := by rfl) : DG L G n X (.Tuple es k pos) (.tp ts) := dg_tup h hn hst
theorem ir1_ {tg : Expr} (hm : X.mg "range" = none) (ha : DE L G n X a ia) (hg : Gl X "range" := by rfl) (hs : starEach [a] X.env = (false, eval a X.env) :: starEach [] X.env := by rfl) : DI L G n X tg (.Call (.Name "range" p) [a] [] pos) .rng [ia] := di_rng1 hg hm ha hs
theorem ir2_ {tg : Expr} (hm : X.mg "range" = none) (ha : DE L G n X a ia) (hb : DE L G n X b ib) (hg : Gl X "range" := by rfl) (hs : starEach [a, b] X.env = (false, eval a X.env) :: starEach [b] X.env := by rfl) (hs2 : starEach [b] X.env = (false, eval b X.env) :: starEach [] X.env := by rfl) : DI L G n X tg (.Call (.Name "range" p) [a, b] [] pos) .rng [ia, ib] := di_rng2 hg hm ha hb hs hs2
/-- statements -/
theorem s_set {j : Nat} (he : DE L G n X e ie) (hi : X.N[j]? = some x := by rfl) (hl : Loc X.env.scope x := by first | exact Or.inl rfl | exact Or.inr rfl) (hs : swapsWith e (some (.Name x p)) pos.line X.env = pure false := by rfl) (hf : X.fn x = true ∨ X.env.scope.names.lookup x = some .local := by first | exact .inl rfl | exact .inr rfl) :
    DS L G n X (.Assign [.Name x p] e pos) (.set j ie) := ds_set hi hl he hs hf
theorem s_tset {tg : Expr} (he : DE L G n X e ie) (hg : DG L G n X tg t) (hs : swapsWithSole [tg] e pos.line X.env = pure false := by rfl) (hw : swappedStores [tg] e X.env = pure none := by rfl) (h1 : (assignEach [tg] X.env).map (·.2) = [assign tg X.env] := by rfl) : DS L G n X (.Assign [tg] e pos) (.tset t ie) := ds_tset he hg hs hw h1
theorem s_par2 {j l : Nat} {y : Str} {px py pt : Pos} {kt k2 : Nat} {pt2 : Pos} (ha : DA L G n X [a, b] ies) (hi : X.N[j]? = some x := by rfl) (hj : X.N[l]? = some y := by rfl) (hij : j ≠ l := by decide) (hx : X.env.scope.names.lookup x = some .local := by rfl) (hy : X.env.scope.names.lookup y = some .local := by rfl)
    (hw : swappedStores [.Tuple [.Name x px, .Name y py] kt pt] (.Tuple [a, b] k2 pt2) X.env = pure (some [x, y]) := by rfl) (hs : swapsWithSole [.Tuple [.Name x px, .Name y py] kt pt] (.Tuple [a, b] k2 pt2) pos.line X.env = pure false := by rfl) :
    DS L G n X (.Assign [.Tuple [.Name x px, .Name y py] kt pt] (.Tuple [a, b] k2 pt2) pos) (.par [j, l] ies) := ds_par2 hi hj hij hx hy ha hw hs
theorem s_par3 {j l m : Nat} {y z : Str} {c : Expr} {px py pz pt : Pos} {kt k2 : Nat} {pt2 : Pos} (ha : DA L G n X [a, b, c] ies) (hi : X.N[j]? = some x := by rfl) (hj : X.N[l]? = some y := by rfl) (hm : X.N[m]? = some z := by rfl) (hij : j ≠ l := by decide) (him : j ≠ m := by decide) (hjm : l ≠ m := by decide)
    (hx : X.env.scope.names.lookup x = some .local := by rfl) (hy : X.env.scope.names.lookup y = some .local := by rfl) (hz : X.env.scope.names.lookup z = some .local := by rfl)
    (hw : swappedStores [.Tuple [.Name x px, .Name y py, .Name z pz] kt pt] (.Tuple [a, b, c] k2 pt2) X.env = pure (some [x, y, z]) := by rfl) (hs : swapsWithSole [.Tuple [.Name x px, .Name y py, .Name z pz] kt pt] (.Tuple [a, b, c] k2 pt2) pos.line X.env = pure false := by rfl) :
    DS L G n X (.Assign [.Tuple [.Name x px, .Name y py, .Name z pz] kt pt] (.Tuple [a, b, c] k2 pt2) pos) (.par [j, l, m] ies) := ds_par3 hi hj hm hij him hjm hx hy hz ha hw hs
theorem s_sub {sp : Pos} (he : DE L G n X e ie) (ho : DE L G n X o io) (hi : DE L G n X i ii)
    (ha : ∀ v, assign (.Subscript o i sp) X.env v = (do
      let ov ← holding [v] (eval o X.env)
      let iv ← holding [v, ov] (eval i X.env)
      standAt sp
      holding [v, ov, iv] (setItem ov iv v)
      release [v, ov, iv] []) := by intro _; rfl)
    (hs : swapsWithSole [.Subscript o i sp] e pos.line X.env = pure false := by rfl) (hw : swappedStores [.Subscript o i sp] e X.env = pure none := by rfl) (h1 : (assignEach [.Subscript o i sp] X.env).map (·.2) = [assign (.Subscript o i sp) X.env] := by rfl) :
    DS L G n X (.Assign [.Subscript o i sp] e pos) (.sub io ii ie) := ds_sub he ho hi ha hs hw h1
theorem s_expr (he : DE L G n X e ie) (hs : swapsWith e none pos.line X.env = pure false := by rfl) : DS L G n X (.Expr e pos) (.expr ie) := ds_expr he hs
theorem s_for {tg iter : Expr} {body : List Stmt} {iss : List IS} (hi : DI L G n X tg iter k ies) (hg : DG L G n X tg t) (hb : DSs L G n X body iss) (hs : ∀ x, foldedSetIterable iter X.env x = pure x := by intro _; rfl) : DS L G n X (.For tg iter body [] pos) (.for k ies t iss) := ds_for hi hg hb hs
/-- comprehensions: own names' places are vs -/
theorem lc_ {tg iter elt : Expr} {ifs : List Expr} {scope : Scope} (own : List (Str × Nat)) (hi : DI L G n X tg iter k ies)
    (hg : ∀ (s : Shared) (H : Hp) (C : Addr) (cl : List (Str × Addr)) (fp : List Addr), DG L G n (X.blk s H scope (compEnvC scope cl C X.env) fp) tg t)
    (ht : ∀ (s : Shared) (H : Hp) (C : Addr) (cl : List (Str × Addr)) (fp : List Addr), DTs L G n (X.blk s H scope (compEnvC scope cl C X.env) fp) ifs it)
    (he : ∀ (s : Shared) (H : Hp) (C : Addr) (cl : List (Str × Addr)) (fp : List Addr), DE L G n (X.blk s H scope (compEnvC scope cl C X.env) fp) elt ie)
    (ok : BlkOk X.N X.env.scope scope own) (hvs : ∀ i ∈ slots t, i ∈ own.map (·.2) := by decide) (hs : ∀ x, foldedSetIterable iter X.env x = pure x := by intro _; rfl) : DE L G n X (.ListComp elt [⟨tg, iter, ifs, 0⟩] scope pos) (.comp k ies (own.map (·.2)) t it ie) := de_comp hi ok hvs hg ht he hs
end

/-! ### the law's end -/
def spLaw (K : PySem.W.Frag) : Sp := fun vs H Q _ => ∃ (a : Addr) (ns : List Int), vs = [.ref a] ∧ SqR K (fun _ => none) (fun _ => False) H a (ns.map V.int) ∧ ns.length ≤ 63 ∧ ∀ H', Q (.bl true) H'
theorem sqR_of {K : PySem.W.Frag} {H : Hp} {a : Addr} {xs : List V} (h : L2.Only H) (s : SqL K H a xs) : SqR K (fun _ => none) (fun _ => False) H a xs := by
  rcases s with s | s
  · exact .inl ⟨s, rfl, fun z => z⟩
  · exact .inr s
theorem law_ok {L : Lk} {G : Gm} {P : Program} {w : World} {mg : Str → Option Value} {base : Heap} {f k : Nat} {fd : FnD} {fdt : FuncData} {ps : List Str} (h : ∀ f fd, G.fn f = some fd → ∃ fdt ps, Def1 L G P w mg f fd fdt ps) (hcl : ∀ C cd, G.cl C = some cd → ClOk L G C cd) (D : Def1 L G P w mg f fd fdt ps) (hf : G.fn f = some fd)
    (hl : ∀ ns : List Int, ns.length ≤ 63 → callN G (k + 1) f [.rol (ns.map .int)] (fun _ => none) (fun d _ => d = .bl true) (fun _ _ => False)) :
    FnOk P w L.K mg base (L2.CX P w) (2 * (k + 1)) (L.FA f) fdt ps (spLaw L.K) := by
  refine (def_ok D hf (fns_ok h hcl k) hcl).imp fun vs H Q E ⟨a, ns, e, hs, hn, q⟩ => ?_
  subst e
  refine ⟨fun _ => False, [.rol (ns.map .int)], fun _ => none, _, _, .cons (rv_rol.mpr ⟨a, _, rfl, hs, RVs.of_ints ns⟩) .nil, ⟨(by intro b o z; cases z), (by intro b z; exact z.elim)⟩, hl ns hn, fun d A' v H' rv _ _ ed => ?_, fun _ _ _ _ _ z => (show False from z).elim⟩
  subst ed
  rw [rv_bl.mp rv]
  exact q H'
theorem no_cx {P : Program} {w : World} {H : Hp} {s s' : Shared} {e : Value} (h : L2.CX P w [] H s (fun _ _ _ => False) e s') : False := by
  obtain ⟨_, _, _, _, _, _, _, _, _, _, _, _, z⟩ := h
  exact z
end DL

set_option Elab.async false
set_option linter.all false
set_option maxRecDepth 100000
/-! xs[::-1], a list or a tuple; a chain of three comparisons; range(..) with a step -/
namespace DL
open PySem PySem.Spec PyProof.Rows L2
section
variable {prog : Program} {w : World} {A : Around} {E : Value → Shared → Prop} {s : Shared}
end
section
variable {L : Lk} {G : Gm} {n : Nat} {X : Cx} {a b c d e : Expr} {ia ib ic id ie : IE} {pos p1 p2 p3 : Pos}
def tRevA (K : PySem.W.Frag) (te : TE) : TE := fun σ H Q => te σ H fun x H1 => ∃ q xs, x = .ref q ∧ ((SqL K H1 q xs ∧ ∀ p, H1 p = none → Q (.ref p) (upd H1 p (.lst xs.reverse))) ∨ (SqT K H1 q xs ∧ ∀ p, H1 p = none → Q (.ref p) (upd H1 p (.tup xs.reverse))))
end
end DL

set_option Elab.async false
set_option linter.all false
set_option maxRecDepth 100000
/-! a chain of three comparisons -/
namespace DL
open PySem PySem.Spec PyProof.Rows L2
section
variable {X : Cx} {a b c d : Expr} {ta tb tc td : TE} {pos : Pos}
def tChain3 (r r' r'' : R2) (ta tb tc td : TE) : TE := fun σ H Q => ta σ H fun x H1 => tb σ H1 fun y H2 => r x y H2 fun z H3 => ∃ k, z = .bl k ∧
  (if k = true then tc σ H3 fun w' H4 => r' y w' H4 (fun z2 H5 => ∃ l, z2 = .bl l ∧ (if l = true then td σ H5 fun w2 H6 => r'' w' w2 H6 Q else Q (.bl false) H5)) else Q (.bl false) H3)
end
section
variable {L : Lk} {G : Gm} {n : Nat} {X : Cx} {a b c d : Expr} {ia ib ic id' : IE} {pos : Pos}
end
end DL

set_option Elab.async false
set_option linter.all false
set_option maxRecDepth 100000
/-! objects: fields, methods, new ones -/
namespace DL
open PySem PySem.Spec PyProof.Rows L2
/-! ### fields by name -/
theorem zip_get {f : Str} : ∀ {ns : List Str} {vs : List V} {i : Nat} {v : V}, ns.Nodup → ns[i]? = some f → vs[i]? = some v → (ns.zip vs).lookup f = some v
  | [], _, _, _, _, h, _ => by simp at h
  | n :: ns, [], i, v, _, _, h => by simp at h
  | n :: ns, w :: vs, 0, v, nd, h1, h2 => by
    simp at h1 h2; subst h1 h2
    simp [List.lookup]
  | n :: ns, w :: vs, i + 1, v, nd, h1, h2 => by
    rw [List.nodup_cons] at nd
    rw [List.getElem?_cons_succ] at h1 h2
    have hne : (f == n) = false := beq_eq_false_iff_ne.mpr fun z => by subst z; exact nd.1 (List.mem_of_getElem? h1)
    rw [List.zip_cons_cons, List.lookup, hne]
    exact zip_get nd.2 h1 h2
theorem zip_no {f : Str} : ∀ {ns : List Str} {vs : List V}, f ∉ ns → (ns.zip vs).lookup f = none
  | [], _, _ => by simp
  | n :: ns, [], _ => by simp
  | n :: ns, w :: vs, h => by
    rw [List.mem_cons, not_or] at h
    rw [List.zip_cons_cons, List.lookup, beq_eq_false_iff_ne.mpr h.1]
    exact zip_no h.2
def putV (vs : List V) (k : Nat) (v : V) : List V := if k < vs.length then vs.set k v else vs ++ [v]
theorem zip_put {f : Str} {v : V} : ∀ {ns : List Str} {vs : List V} {i : Nat}, ns.Nodup → ns[i]? = some f → i ≤ vs.length → putF f v (ns.zip vs) = ns.zip (putV vs i v)
  | [], _, _, _, h, _ => by simp at h
  | n :: ns, [], i, nd, h, hi => by
    have hi : i = 0 := by simpa using hi
    subst hi
    simp at h; subst h
    unfold putV
    rw [if_neg (by simp)]
    show [(n, v)] = _
    simp
  | n :: ns, w :: vs, 0, nd, h, hi => by
    simp at h; subst h
    show (if n = n then _ else _) = _
    rw [if_pos rfl]
    unfold putV
    rw [if_pos (by simp)]
    rfl
  | n :: ns, w :: vs, i + 1, nd, h, hi => by
    rw [List.nodup_cons] at nd
    rw [List.getElem?_cons_succ] at h
    have hne : ¬ n = f := fun z => by subst z; exact nd.1 (List.mem_of_getElem? h)
    show (if n = f then (n, v) :: ns.zip vs else (n, w) :: putF f v (ns.zip vs)) = _
    rw [if_neg hne, zip_put (ns := ns) (vs := vs) (i := i) nd.2 h (by simpa using hi)]
    unfold putV
    rw [List.length_cons]
    by_cases q : i < vs.length
    · rw [if_pos q, if_pos (by omega)]; rfl
    · rw [if_neg q, if_neg (by omega)]; rfl
theorem RVs.putV {K : PySem.W.Frag} {A : AH} {N : Addr → Prop} {H : Hp} {fs : List D} {vs : List V} {d : D} {v : V} (r : RVs K A N H fs vs) (rd : RV K A N H d v) (k : Nat) : RVs K A N H (putF' fs k d) (DL.putV vs k v) := by
  unfold putF' DL.putV
  rw [r.length]
  split
  · exact RVs.set rd k r
  · exact r.snoc rd
theorem putF'_len {fs : List D} {k n : Nat} {d : D} (h : fs.length ≤ n) (hk : k < n) : (putF' fs k d).length ≤ n := by
  unfold putF'
  split
  · rw [List.length_set]; exact h
  · rw [List.length_append, List.length_singleton]; omega
section
variable {L : Lk} {G : Gm} {n : Nat} {X : Cx} {a b c e o : Expr} {es : List Expr} {ia ib ic ie io : IE} {ies : List IE} {pos p p2 apos cpos : Pos} {x f m : Str}
theorem de_fld {C i : Nat} {cd : ClD} (hC : G.cl C = some cd) (hf : (L.FN C)[i]? = some f) (ho : DE L G n X o io) (hb : attributeBase o f X.env (eval o X.env) = eval o X.env) : DE L G n X (.Attribute o f pos) (.fld C i io) := fun C' W tk =>
  pe_imp (pe_fld (ho C' W tk) hb) fun σ H Q ⟨N, δ, A, Qd, Ed, rs, ra, h, hq, hx⟩ =>
    LE.use rs ra h (fun d A1 v1 H1 rv1 ra1 ex1 rs1 q1 => by
      have K := C'.cls C cd hC
      cases d with
      | ref q =>
        simp only at q1
        split at q1
        · next c' fs e =>
          obtain ⟨rfl, q1⟩ := q1
          split at q1
          · next d e2 =>
            obtain ⟨dx, vs, h1, h2, h3⟩ := ra1 q _ e
            obtain ⟨v, h4, h5⟩ := RVs.get h2 e2
            rw [C'.K]
            exact ⟨q, _, dx, _, v, rv_ref.mp rv1, h1, K.cls, K.nof f (List.mem_of_getElem? hf), zip_get K.nod hf h4, hq _ A1 _ H1 h5 ra1 ex1 q1⟩
          · exact q1.elim
        · exact q1.elim
      | _ => exact (show False from q1).elim) hx
/-- what comes back from a call of a def, in this body -/
theorem run_here {W : WX} {f : Nat} {fdt : FuncData} {ps : List Str} (C : Cn L G n X) (tk : Takes X W) (F : FnOk X.prog X.w X.K X.mg X.base (L2.CX X.prog X.w) (2 * n) (L.FA f) fdt ps (spD L (callN G n) f)) (hb : Binds X.K fdt ps [])
    {pins : List (Addr × Obj)} {s : Shared} {σ : L2.St} {H : Hp} {us : List Value} {vs : List V} {Q : VK} (I : Inv X pins σ H s) (r : Vals vs us) (q : spD L (callN G n) f vs H Q fun cls d H' => W cls d σ H') :
    wpAny (model X.prog X.w) X.A (call (.ref (L.FA f)) us) (EP X pins σ Q) X.xe s := by
  have hl : (us ++ []).length = ps.length := by rw [List.append_nil, ← r.length]; exact F.len _ _ _ _ q
  have hb' := hb s us I.kIn hl
  rw [List.append_nil] at hb'
  refine wpAny_call (codeAny_mono (F.run X.A X.stack s H ⟨us, []⟩ us vs Q _ (C.room.mono (Nat.le_succ _)) I.env0 hb' r q) fun rr s2 hq2 => ?_)
  cases rr with
  | error u => exact tk u s2 (XE.of_call I (fun _ _ _ z => z) hq2)
  | ok fl =>
    cases fl with
    | ret u => exact I.after hq2
    | next => exact False.elim hq2
    | brk => exact False.elim hq2
    | cont => exact False.elim hq2
/-- o.m(e, ..) -/
theorem de_meth {k : Nat} {pl : Sem Bool} (hm : L.MN k = m) (ho : DE L G n X o io) (ha : DA L G n X (e :: es) ies)
    (hst : starEach (e :: es) X.env = (false, eval e X.env) :: starEach es X.env) (hpl : (backTo pos (starEach es X.env)).any (·.1) = false)
    (ht : eval (.Call (.Attribute o m apos) (e :: es) [] pos) X.env = (do
      let ov ← eval o X.env
      standAt apos.atName
      let (f, first) ← holding [ov] (getMethod ov m pl)
      callWith pos f first (backTo pos (starEach (e :: es) X.env)) (backToKw pos (keywordEach [] X.env)))) : DE L G n X (.Call (.Attribute o m apos) (e :: es) [] pos) (.meth k io ies) := fun C W tk => by
  refine ⟨fun pins s σ H Q I ⟨N, δ, A, Qd, Ed, rs, ra, h, hq, hx⟩ => ?_⟩
  refine PySem.W.methodCall_KW (pl := pl) (thn ((ho C W tk).run pins s σ H (fun v H1 => ∃ d A1, RV L.K A1 N H1 d v ∧ RA L A1 N H1 ∧ Ext A H A1 H1 ∧ RS L.K A1 N H1 δ σ ∧ (match d with
      | .ref a => match A1 a with
        | some (.ins C fs) => match G.cl C with
          | some cd => match cd.ms.lookup k with
            | some f => wpEs (callN G n) G ies δ A1 (fun ds A2 => callN G n f (d :: ds) A2 Qd Ed) Ed
            | none => False
          | none => False
        | _ => False
      | _ => False)) I (LE.use rs ra h (fun d A1 v1 H1 rv1 ra1 ex1 rs1 q1 => ⟨d, A1, rv1, ra1, ex1, rs1, q1⟩) hx)) fun u s1 ⟨y, H1, I1, rx, d, A1, rv1, ra1, ex1, rs1, q1⟩ => ?_) ht
  cases d with
  | ref q =>
    simp only at q1
    split at q1
    · next c' fs e1 =>
      split at q1
      · next cd hC =>
        split at q1
        · next f e2 =>
          have K := C.cls c' cd hC
          obtain ⟨hM, hno, fd, hG⟩ := K.met k f e2
          obtain ⟨fdt, ps, F, hb, hk⟩ := C.fns f fd hG
          obtain ⟨dx, vs, h1, h2, h3⟩ := ra1 q _ e1
          have ey := rv_ref.mp rv1
          subst ey
          obtain rfl : u = Value.ref q := rx
          rw [hm] at hM hno
          rw [← C.K] at hM
          refine getmeth_ok I1 h1 (by rw [C.K]; exact K.cls) hM (zip_no hno) ?_
          refine PySem.W.callWith_K (first := [.ref q]) (h₀ := X.base) I1.ok.mod.kin hM.kp (thn ((ha C W tk).run pos pins s1 σ H1 (fun vs H2 => spD L (callN G n) f (.ref q :: vs) H2 Q fun cls d H' => W cls d σ H') I1 (LAs.use rs1 ra1 q1 (fun ds A2 vs H2 rv2 ra2 ex2 rs2 q2 =>
            ⟨N, .ref q :: ds, A2, Qd, Ed, .cons (rv_ref.mpr rfl) rv2, ra2, q2, fun d A' v H' r1 r2 e q => hq d A' v H' r1 r2 ((ex1.trans ex2).trans e) q, XW.ext hx (ex1.trans ex2)⟩) (XW.ext hx ex1))) fun us s2 ⟨vs, H2, I2, r, q2⟩ => ⟨I2.kIn, ?_⟩) hst hpl
          exact run_here C tk F hb I2 (us := .ref q :: us) (vs := .ref q :: vs) (.cons rfl r) q2
        · exact q1.elim
      · exact q1.elim
    · exact q1.elim
  | _ => exact (show False from q1).elim
/-- o.m() -/
theorem de_meth0 {k : Nat} {pl : Sem Bool} (hm : L.MN k = m) (ho : DE L G n X o io)
    (ht : eval (.Call (.Attribute o m apos) [] [] pos) X.env = (do
      let ov ← eval o X.env
      standAt apos.atName
      let (f, first) ← holding [ov] (getMethod ov m pl)
      callWith pos f first (backTo pos (starEach [] X.env)) (backToKw pos (keywordEach [] X.env)))) : DE L G n X (.Call (.Attribute o m apos) [] [] pos) (.meth k io []) := fun C W tk => by
  refine ⟨fun pins s σ H Q I ⟨N, δ, A, Qd, Ed, rs, ra, h, hq, hx⟩ => ?_⟩
  refine PySem.W.methodCall_KW (pl := pl) (thn ((ho C W tk).run pins s σ H (fun v H1 => ∃ d A1, RV L.K A1 N H1 d v ∧ RA L A1 N H1 ∧ Ext A H A1 H1 ∧ RS L.K A1 N H1 δ σ ∧ (match d with
      | .ref a => match A1 a with
        | some (.ins C fs) => match G.cl C with
          | some cd => match cd.ms.lookup k with
            | some f => callN G n f [d] A1 Qd Ed
            | none => False
          | none => False
        | _ => False
      | _ => False)) I (LE.use rs ra h (fun d A1 v1 H1 rv1 ra1 ex1 rs1 q1 => ⟨d, A1, rv1, ra1, ex1, rs1, q1⟩) hx)) fun u s1 ⟨y, H1, I1, rx, d, A1, rv1, ra1, ex1, rs1, q1⟩ => ?_) ht
  cases d with
  | ref q =>
    simp only at q1
    split at q1
    · next c' fs e1 =>
      split at q1
      · next cd hC =>
        split at q1
        · next f e2 =>
          have K := C.cls c' cd hC
          obtain ⟨hM, hno, fd, hG⟩ := K.met k f e2
          obtain ⟨fdt, ps, F, hb, hk⟩ := C.fns f fd hG
          obtain ⟨dx, vs, h1, h2, h3⟩ := ra1 q _ e1
          have ey := rv_ref.mp rv1
          subst ey
          obtain rfl : u = Value.ref q := rx
          rw [hm] at hM hno
          rw [← C.K] at hM
          refine getmeth_ok I1 h1 (by rw [C.K]; exact K.cls) hM (zip_no hno) ?_
          exact PySem.W.callWith_K0 (first := [.ref q]) I1.kIn hM.kp (run_here C tk F hb I1 (us := [.ref q]) (vs := [.ref q]) (.cons rfl .nil)
            ⟨N, [.ref q], A1, Qd, Ed, .cons (rv_ref.mpr rfl) .nil, ra1, q1, fun d A' v H' r1 r2 e q => hq d A' v H' r1 r2 (ex1.trans e) q, XW.ext hx ex1⟩)
        · exact q1.elim
      · exact q1.elim
    · exact q1.elim
  | _ => exact (show False from q1).elim
/-- C(e, ..) -/
theorem de_make {k : Nat} {cd : ClD} (hC : G.cl k = some cd) (hg : Gl X x) (hm : X.mg x = some (.ref (L.CA k))) (ha : DA L G n X (e :: es) ies) (hdb : (x == ("__debug__" : Str)) = false)
    (he : starEach (e :: es) X.env = (false, eval e X.env) :: starEach es X.env) (hpl : (backTo pos (starEach es X.env)).any (·.1) = false) : DE L G n X (.Call (.Name x p) (e :: es) [] pos) (.make k ies) := fun C W tk => by
  have K := C.cls k cd hC
  obtain ⟨M, fd, hG⟩ := K.mak
  obtain ⟨fdt, ps, F, hb, hk⟩ := C.fns cd.init fd hG
  rw [← C.K] at M
  refine ⟨fun pins s σ H Q I ⟨N, δ, A, Qd, Ed, rs, ra, h, hq, hx⟩ => ?_⟩
  refine wpAny_Call_Name_kw (ld_glob I hg hm ?_ hdb)
  refine PySem.W.callWith_K (h₀ := X.base) I.ok.mod.kin M.kp (thn ((ha C W tk).run pos pins s σ H (fun vs H1 => ∃ ds A1, RVs L.K A1 N H1 ds vs ∧ RA L A1 N H1 ∧ Ext A H A1 H1 ∧ (∀ x, A1 x = none → callN G n cd.init (.ref x :: ds) (up A1 x (.ins k [])) (fun r A2 => (match r with | .non => True | _ => False) ∧ Qd (.ref x) A2) Ed)) I (LAs.use rs ra h (fun ds A1 vs H1 rv1 ra1 ex1 rs1 q1 => by
    have q1 : (match G.cl k with
      | some cd => ∀ x, A1 x = none → callN G n cd.init (.ref x :: ds) (up A1 x (.ins k [])) (fun r A2 => (match r with | .non => True | _ => False) ∧ Qd (.ref x) A2) Ed
      | none => False) := q1
    rw [hC] at q1
    exact ⟨ds, A1, rv1, ra1, ex1, q1⟩) hx)) fun us s1 ⟨vs, H1, I1, r, ds, A1, rv1, ra1, ex1, q1⟩ => ⟨I1.kIn, ?_⟩) he hpl
  have n1 : H1 (s1.heap.objs.size + 1) = none := I1.hok.fresh (Nat.le_succ _)
  have n2 : H1 s1.heap.objs.size = none := I1.hok.fresh (Nat.le_refl _)
  have ne : s1.heap.objs.size ≠ s1.heap.objs.size + 1 := Nat.ne_of_lt (Nat.lt_succ_self _)
  have I2 := Inv.made (C := L.CA k) I1
  have n3 : upd H1 s1.heap.objs.size (.own (s1.heap.objs.size + 1)) (s1.heap.objs.size + 1) = none := by rw [upd_ne (Ne.symm ne)]; exact n1
  have raA := ra1.tupNew (u := .own (s1.heap.objs.size + 1)) n2
  have exA := Ext.tupNew (u := .own (s1.heap.objs.size + 1)) ra1 n2
  have raB : RA L (up A1 (s1.heap.objs.size + 1) (.ins k [])) N (upd (upd H1 s1.heap.objs.size (.own (s1.heap.objs.size + 1))) (s1.heap.objs.size + 1) (.ins (L.CA k) s1.heap.objs.size [])) :=
    raA.new n3 ⟨_, [], by rw [upd_same, List.zip_nil_right], .nil, Nat.zero_le _⟩
  have exB : Ext A1 H1 (up A1 (s1.heap.objs.size + 1) (.ins k [])) (upd (upd H1 s1.heap.objs.size (.own (s1.heap.objs.size + 1))) (s1.heap.objs.size + 1) (.ins (L.CA k) s1.heap.objs.size [])) := exA.trans (Ext.new raA n3)
  have rvB := RVs.stay (exB.stay ra1) _ _ rv1
  have q2 : spD L (callN G n) cd.init (.ref (s1.heap.objs.size + 1) :: vs) (upd (upd H1 s1.heap.objs.size (.own (s1.heap.objs.size + 1))) (s1.heap.objs.size + 1) (.ins (L.CA k) s1.heap.objs.size [])) (fun v H2 => v = .non ∧ Q (.ref (s1.heap.objs.size + 1)) H2) (fun cls d H' => W cls d σ H') :=
    ⟨N, .ref (s1.heap.objs.size + 1) :: ds, _, _, Ed, .cons (rv_ref.mpr rfl) rvB, raB, q1 _ (ra1.non n1), fun d A' v H' r1 r2 e q => by
      have q0 := q.1
      cases d <;> first | exact (show False from q0).elim | skip
      exact ⟨rv_non.mp r1, hq _ A' _ H' (rv_ref.mpr rfl) r2 ((ex1.trans exB).trans e) q.2⟩, XW.ext hx (ex1.trans exB)⟩
  have r2 : Vals (V.ref (s1.heap.objs.size + 1) :: vs) (Value.ref (s1.heap.objs.size + 1) :: us) := .cons rfl r
  have hl : (Value.ref (s1.heap.objs.size + 1) :: us ++ []).length = ps.length := by
    have e := r2.length
    rw [F.len _ _ _ _ q2] at e
    rw [List.append_nil]
    exact e.symm
  have hb' := hb _ (Value.ref (s1.heap.objs.size + 1) :: us) I2.kIn hl
  rw [List.append_nil] at hb'
  refine wpAny_call (make_map (f := L.FA cd.init) I1.kIn M.makes M.init (beq_iff_eq.mp M.fn) (codeAny_mono (F.run _ X.stack _ _ ⟨Value.ref (s1.heap.objs.size + 1) :: us, []⟩ (Value.ref (s1.heap.objs.size + 1) :: us) _ _ _ (C.room.make (L.CA k) us [])
    (I2.env0.make (L.CA k) us []) hb' r2 q2) fun r s' hq' => ?_))
  cases r with
  | error e => exact tk e s' (XE.of_call I2 (fun _ _ _ z => z) hq')
  | ok fl =>
    cases fl with
    | ret u =>
      obtain ⟨v, H', I3, rv, ev, q3⟩ := I2.after hq'
      subst ev
      exact ⟨rv, ⟨V.ref (s1.heap.objs.size + 1), H', I3, rfl, q3⟩⟩
    | next => exact False.elim hq'
    | brk => exact False.elim hq'
    | cont => exact False.elim hq'
/-- o.f = e -/
theorem ds_put {C i : Nat} {cd : ClD} (hC : G.cl C = some cd) (hf : (L.FN C)[i]? = some f) (he : DE L G n X e ie) (ho : DE L G n X o io) (hs : swapsWith e (some (.Attribute o f p)) pos.line X.env = pure false) : DS L G n X (.Assign [.Attribute o f p] e pos) (.put C i io ie) := fun C' po W tk =>
  ps_imp (ps_fld (ho C' W tk) (he C' W tk) hs) fun D σ H ⟨N, δ, A, P, rs, ra, h, hn, hr, hc, hx⟩ =>
    LE.use rs ra h (fun d A1 v1 H1 rv1 ra1 ex1 rs1 q1 => LE.use rs1 ra1 q1 (fun d2 A2 v2 H2 rv2 ra2 ex2 rs2 q2 => by
      have K := C'.cls C cd hC
      cases d2 with
      | ref q =>
        simp only at q2
        split at q2
        · next c' fs e =>
          obtain ⟨rfl, hk, q2⟩ := q2
          obtain ⟨dx, vs, h1, h2, h3⟩ := ra2 q _ e
          have hlt : i < (L.FN c').length := (List.getElem?_eq_some_iff.mp hf).1
          rw [C'.K]
          refine ⟨q, _, dx, _, rv_ref.mp rv2, h1, K.cls, K.nof f (List.mem_of_getElem? hf), ?_, ?_⟩
          · have := K.few
            rw [List.length_zip]; omega
          · rw [zip_put K.nod hf (by rw [← h2.length]; exact hk)]
            refine hn δ _ σ _ (rs2.stay ((Ext.put e).stay ra2)) (ra2.put (o' := .ins c' (putF' fs i d)) e ⟨dx, _, upd_same, RVs.stay ((Ext.put e).stay ra2) _ _ (h2.putV (RV.stay (ex2.stay ra1) _ _ rv1) i), putF'_len h3 hlt⟩) ((ex1.trans ex2).trans (Ext.put e)) q2
        · exact q2.elim
      | _ => exact (show False from q2).elim) (exq rs1 ra1 fun x δ' A' σ' H' r0 r e q => hx x δ' A' σ' H' r0 r (ex1.trans e) q)) (exq rs ra hx)
end
end DL

set_option Elab.async false
set_option linter.all false
set_option maxRecDepth 100000
/-! dicts -/
namespace DL
open PySem PySem.Spec PyProof.Rows L2
section
variable {L : Lk} {G : Gm} {n : Nat} {X : Cx} {a b c e o f tg : Expr} {es : List Expr} {ia ib ic ie io ig : IE} {ies : List IE} {pos p p2 apos cpos : Pos} {x m : Str}
/-! ### a dict is locked -/
theorem de_lk (he : DE L G n X e ie) : DE L G n X e (.lk ie) := fun C W tk =>
  pe_imp (pe_lock (he C (fun _ _ _ _ => False) takes0)) fun σ H Q ⟨N, δ, A, Qd, Ed, rs, ra, h, hq, hx⟩ => by
    obtain ⟨q, kvs, e, h⟩ := h
    obtain ⟨ws, h1, h2⟩ := ra q _ e
    refine ⟨q, .dK ws, h1, trivial, fun od => ?_⟩
    have ex1 : Ext A H (up A q (.dkl kvs (.frz od (.dK ws)))) (upd H q (.frz od (.dK ws))) := Ext.put e
    have ra1 : RA L (up A q (.dkl kvs (.frz od (.dK ws)))) N (upd H q (.frz od (.dK ws))) := ra.put e ⟨upd_same, od, ws, rfl, h2.stay (ex1.stay ra)⟩
    refine LE.use (rs.stay (ex1.stay ra)) ra1 (h _) (fun d A2 v2 H2 rv2 ra2 ex2 rs2 q2 => ?_) (fun _ _ _ _ _ z => z)
    obtain ⟨e2, q2⟩ := q2
    obtain ⟨h3, o', ws', h4, h5⟩ := ra2 q _ e2
    have h6 : ws = ws' := by injection h4 with _ h4; injection h4
    subst h6
    have ex3 : Ext A2 H2 (up A2 q (.dk kvs)) (upd H2 q (.dK ws)) := Ext.put e2
    exact ⟨h3, hq d _ v2 _ (RV.stay (ex3.stay ra2) _ _ rv2) (ra2.put e2 ⟨ws, upd_same, h5.stay (ex3.stay ra2)⟩) ((ex1.trans ex2).trans ex3) q2⟩
theorem RKs.at {A : AH} {N : Addr → Prop} {H : Hp} : ∀ {kvs : List (Key × D)} {ws : List (Key × V)} {i : Nat} {k : Key} {v : V}, RKs L.K A N H kvs ws → ws[i]? = some (k, v) → ∃ d, kvs[i]? = some (k, d)
  | [], ws, i, k, v, h, e => by rw [h.nil'] at e; simp at e
  | p :: kvs, ws, 0, k, v, h, e => by
    obtain ⟨q, r, rfl, e1, h1, h2⟩ := h.cons'
    simp at e; subst e
    have e1 : p.1 = k := e1
    exact ⟨p.2, by rw [List.getElem?_cons_zero, ← e1]⟩
  | p :: kvs, ws, i + 1, k, v, h, e => by
    obtain ⟨q, r, rfl, e1, h1, h2⟩ := h.cons'
    rw [List.getElem?_cons_succ] at e ⊢
    exact RKs.at h2 e
theorem dwk_keys {A0 : AH} {N0 : Addr → Prop} {H0 : Hp} {q : Addr} {od : Obj} {kvs : List (Key × D)} {ws : List (Key × V)} : DWk L N0 (Itk q od ws) (kvs.map fun kv => ofKey kv.1) (fun A => A q = some (.dkl kvs (.frz od (.dK ws)))) A0 H0 := by
  have rd : ∀ {A N H}, RA L A N H → A q = some (.dkl kvs (.frz od (.dK ws))) → H q = some (.frz od (.dK ws)) ∧ RKs L.K A N H kvs ws := fun ra g => by
    obtain ⟨h3, o', ws', h4, h5⟩ := ra q _ g
    have h6 : ws = ws' := by injection h4 with _ h4; injection h4
    subst h6
    exact ⟨h3, h5⟩
  refine ⟨fun i A N H hi ra x g => ?_, fun A N H ra x g => ?_, fun i y A N H H' hi ra x g hy => ?_⟩
  · obtain ⟨h1, h2⟩ := rd ra g
    rw [List.length_map] at hi
    exact ⟨h1, by rw [← h2.len]; exact hi⟩
  · obtain ⟨h1, h2⟩ := rd ra g
    exact ⟨h1, by rw [← h2.len, List.length_map]; exact Nat.le_refl _⟩
  · obtain ⟨h1, h2⟩ := rd ra g
    obtain ⟨rfl, k, v, hk, rfl⟩ := hy
    obtain ⟨d, hd⟩ := h2.at hk
    exact ⟨ofKey k, by rw [List.getElem?_map, hd]; rfl, ofKey_rv k, ra, Ext.refl _ _⟩
theorem di_keys (ha : DE L G n X a ia) : DI L G n X tg a .keys [ia] := fun C W tk =>
  pi_imp (pi_keys (ha C W tk)) fun σ H R ⟨N, δ, A, Rd, Ed, rs, ra, h, hq, hx⟩ =>
    LE.use rs ra h (fun d A1 v1 H1 rv1 ra1 ex1 rs1 q1 => by
      cases d with
      | ref q =>
        have q1 : (match A1 q with | some (.dkl kvs u) => Rd (kvs.map fun kv => ofKey kv.1) (fun A' => A' q = some (.dkl kvs u)) A1 | _ => False) := q1
        split at q1
        · next kvs u e =>
          obtain ⟨h3, o', ws', rfl, h5⟩ := ra1 q _ e
          exact ⟨q, o', rv_ref.mp rv1, .inl ⟨ws', h3, hq _ _ A1 H1 _ dwk_keys ra1 ex1 q1⟩⟩
        · exact q1.elim
      | _ => exact (show False from q1).elim) hx
/-! ### displays -/
theorem de_dnew : DE L G n X (.Dict [] [] pos) (.dic []) := fun C W tk =>
  pe_imp pe_dnewK fun σ H Q ⟨N, δ, A, Qd, Ed, rs, ra, h, hq, hx⟩ p np => by
    have h : 0 ≤ 15 ∧ newD A [] Qd := h
    exact hq _ _ _ _ (rv_ref.mpr rfl) (ra.new np (o := .dk []) ⟨[], upd_same, .nil⟩) (Ext.new ra np) (h.2 p (ra.non np))
/-- a new dict -/
theorem Kt.dic {A : AH} {N : Addr → Prop} {H : Hp} {Qd : QE} {Q : VK} {kvs : List (Key × D)} {ws : List (Key × V)} (k : Kt L A N H Qd Q) (ra : RA L A N H) (r : RKs L.K A N H kvs ws) (q : newD A kvs Qd) : ∀ p, H p = none → Q (.ref p) (upd H p (.dK ws)) := fun p np =>
  k _ _ _ _ (rv_ref.mpr rfl) (ra.new np (o := .dk kvs) ⟨ws, upd_same, r.stay ((Ext.new ra np).stay ra)⟩) (Ext.new ra np) (q p (ra.non np))
/-! ### methods -/
theorem isD_of {A : AH} {N : Addr → Prop} {H : Hp} {d : D} {v : V} (ra : RA L A N H) (r : RV L.K A N H d v) (h : isT .dict A d) : ∃ q, v = .ref q ∧ IsD H q := by
  cases d with
  | ref q =>
    simp only [isT] at h
    split at h
    · exact h.elim
    · next e => obtain ⟨ws, h1, _⟩ := ra q _ e; exact ⟨q, rv_ref.mp r, .inl ⟨ws, .inl h1⟩⟩
    · next e => obtain ⟨h1, o, ws, rfl, _⟩ := ra q _ e; exact ⟨q, rv_ref.mp r, .inl ⟨ws, .inr ⟨o, h1⟩⟩⟩
    · exact h.elim
  | rod ks xs => obtain ⟨q, ws, e, h1, _⟩ := rv_rod.mp r; exact ⟨q, e, .inl ⟨ws, h1.1⟩⟩
  | _ => exact (show False from h).elim
theorem RKs.getD {A : AH} {N : Addr → Prop} {H : Hp} {kvs : List (Key × D)} {ws : List (Key × V)} {d : D} {v : V} (h : RKs L.K A N H kvs ws) (k : Key) (r : RV L.K A N H d v) : RV L.K A N H ((valD kvs k).getD d) ((valV ws k).getD v) := by
  have := h.val k
  revert this
  cases valD kvs k <;> cases valV ws k <;> intro h <;> first | exact r | exact h | exact (show False from h).elim
theorem de_get2 (ho : DE L G n X o io) (ha : DE L G n X a ia) (hb : DE L G n X b ib) (mm : M2 X o "get" apos a b cpos) : DE L G n X (.Call (.Attribute o "get" apos) [a, b] [] cpos) (.bm .get io [ia, ib]) := fun C W tk =>
  pe_imp (pe_dget2 (hu_of C.room) (ho C W tk) (ha C W tk) (hb C W tk) mm) fun σ H Q ⟨N, δ, A, Qd, Ed, rs, ra, h, hq, hx⟩ =>
    LE.use rs ra h (fun x A1 v1 H1 rv1 ra1 ex1 rs1 q1 => by
      obtain ⟨q, rfl, d⟩ := isD_of ra1 rv1 q1.1
      refine ⟨q, rfl, d, LE.use rs1 ra1 q1.2 (fun y A2 v2 H2 rv2 ra2 ex2 rs2 q2 => LE.use rs2 ra2 q2 (fun z A3 v3 H3 rv3 ra3 ex3 rs3 q3 => ?_) (XW.ext hx (ex1.trans ex2))) (XW.ext hx ex1)⟩
      have q3 : (match dicD A3 x, keyD y with | some kvs, some k => Qd ((valD kvs k).getD z) A3 | _, _ => False) := q3
      split at q3
      · next kvs ky e1 e2 =>
        obtain ⟨q', ws, e, h1, h2⟩ := dicD_rv e1 ra3 (RV.stay (ex3.stay ra2) _ _ (RV.stay (ex2.stay ra1) _ _ rv1))
        cases e
        refine ⟨_, .inl ⟨ws, ky, h1, keyD_rv e2 (RV.stay (ex3.stay ra2) _ _ rv2), rfl⟩, hq _ A3 _ H3 (h2.getD ky rv3) ra3 ((ex1.trans ex2).trans ex3) q3⟩
      · exact q3.elim) hx
/-- a dict written -/
theorem Kt.dput {A : AH} {N : Addr → Prop} {H : Hp} {Qd : QE} {Q : VK} {q : Addr} {o : AO} {kvs : List (Key × D)} {ws : List (Key × V)} {d : D} {v : V} (k : Kt L A N H Qd Q) (ra : RA L A N H) (e : A q = some o) (r : RKs L.K A N H kvs ws) (rd : RV L.K A N H d v) (h : Qd d (up A q (.dk kvs))) : Q v (upd H q (.dK ws)) :=
  k _ _ _ _ (RV.stay ((Ext.put e).stay ra) _ _ rd) (ra.dput e r) (Ext.put e) h
theorem valV_some {A : AH} {N : Addr → Prop} {H : Hp} {kvs : List (Key × D)} {ws : List (Key × V)} {k : Key} {v : V} (h : RKs L.K A N H kvs ws) (e : valV ws k = some v) : ∃ d, valD kvs k = some d ∧ RV L.K A N H d v := by
  have := h.val k
  rw [e] at this
  cases q : valD kvs k with
  | none => rw [q] at this; exact this.elim
  | some d => rw [q] at this; exact ⟨d, rfl, this⟩
theorem valV_none {A : AH} {N : Addr → Prop} {H : Hp} {kvs : List (Key × D)} {ws : List (Key × V)} {k : Key} (h : RKs L.K A N H kvs ws) (e : valV ws k = none) : valD kvs k = none := by
  have := h.isSome k
  rw [e] at this
  cases q : valD kvs k with
  | none => rfl
  | some d => rw [q] at this; cases this
theorem de_dpop1 (ho : DE L G n X o io) (ha : DE L G n X a ia) (mm : M1 X o "pop" apos a cpos) : DE L G n X (.Call (.Attribute o "pop" apos) [a] [] cpos) (.bm .dpop io [ia]) := fun C W tk =>
  pe_imp (pe_dpop1 (ho C W tk) (ha C W tk) mm) fun σ H Q ⟨N, δ, A, Qd, Ed, rs, ra, h, hq, hx⟩ =>
    LE.use rs ra h (fun x A1 v1 H1 rv1 ra1 ex1 rs1 q1 => by
      obtain ⟨q, rfl, d⟩ := isD_of ra1 rv1 q1.1
      refine ⟨q, rfl, d, LE.use rs1 ra1 q1.2 (fun y A2 v2 H2 rv2 ra2 ex2 rs2 q2 => ?_) (XW.ext hx ex1)⟩
      cases x with
      | ref q' =>
        cases rv_ref.mp rv1
        have q2 : (match A2 q, keyD y with
          | some (.dk kvs), some k => (match valD kvs k with | some v => Qd v (up A2 q (.dk (dropD kvs k))) | none => False)
          | _, _ => False) := q2
        split at q2
        · next kvs ky e1 e2 =>
          split at q2
          · next v e3 =>
            obtain ⟨ws, h1, h2⟩ := ra2 q _ e1
            obtain ⟨w, h3, h4⟩ := h2.get e3
            exact ⟨ws, ky, w, h1, keyD_rv e2 rv2, h3, Kt.dput (fun d A' v' H' r1 r2 e q => hq d A' v' H' r1 r2 ((ex1.trans ex2).trans e) q) ra2 e1 (h2.drop ky) h4 q2⟩
          · exact q2.elim
        · exact q2.elim
      | _ => exact (show False from q2).elim) hx
theorem de_dpop2 (ho : DE L G n X o io) (ha : DE L G n X a ia) (hb : DE L G n X b ib) (mm : M2 X o "pop" apos a b cpos) : DE L G n X (.Call (.Attribute o "pop" apos) [a, b] [] cpos) (.bm .dpop io [ia, ib]) := fun C W tk =>
  pe_imp (pe_dpop2 (ho C W tk) (ha C W tk) (hb C W tk) mm) fun σ H Q ⟨N, δ, A, Qd, Ed, rs, ra, h, hq, hx⟩ =>
    LE.use rs ra h (fun x A1 v1 H1 rv1 ra1 ex1 rs1 q1 => by
      obtain ⟨q, rfl, d⟩ := isD_of ra1 rv1 q1.1
      refine ⟨q, rfl, d, LE.use rs1 ra1 q1.2 (fun y A2 v2 H2 rv2 ra2 ex2 rs2 q2 => LE.use rs2 ra2 q2 (fun z A3 v3 H3 rv3 ra3 ex3 rs3 q3 => ?_) (XW.ext hx (ex1.trans ex2))) (XW.ext hx ex1)⟩
      cases x with
      | ref q' =>
        cases rv_ref.mp rv1
        have q3 : (match A3 q, keyD y with
          | some (.dk kvs), some k => (match valD kvs k with | some v => Qd v (up A3 q (.dk (dropD kvs k))) | none => Qd z A3)
          | _, _ => False) := q3
        split at q3
        · next kvs ky e1 e2 =>
          obtain ⟨ws, h1, h2⟩ := ra3 q _ e1
          refine ⟨ws, ky, h1, keyD_rv e2 (RV.stay (ex3.stay ra2) _ _ rv2), fun w hw => ?_, fun hw => ?_⟩
          · obtain ⟨d, h3, h4⟩ := valV_some h2 hw
            rw [h3] at q3
            exact Kt.dput (fun d A' v' H' r1 r2 e q => hq d A' v' H' r1 r2 (((ex1.trans ex2).trans ex3).trans e) q) ra3 e1 (h2.drop ky) h4 q3
          · rw [valV_none h2 hw] at q3
            exact hq z A3 _ H3 rv3 ra3 ((ex1.trans ex2).trans ex3) q3
        · exact q3.elim
      | _ => exact (show False from q3).elim) hx
end
/-! ### built-in functions of dicts -/
section
variable {X : Cx}
def rLenD : List V → Hp → VK → Prop := fun xs H Q => ∃ a ws, xs = [V.ref a] ∧ Rd H a (.dK ws) ∧ Q (.int ws.length) H
def rDictD : List V → Hp → VK → Prop := fun xs H Q => ∃ (a : Addr) (kvs : List (Key × V)), xs = [.ref a] ∧ Rd H a (.dK kvs) ∧ ∀ p, H p = none → Q (.ref p) (upd H p (.dK kvs))
theorem db_dict {L : Lk} : DBi L rDictD (dBi .dict) := by
  intro ds vs A N H Q Qd rv ra h k
  match ds, rv, h with
  | [d], rv, h =>
    obtain ⟨v, rfl, r⟩ := rvs1 rv
    have h : (match dicD A d with | some kvs => newD A kvs Qd | none => False) := h
    split at h
    · next kvs e =>
      obtain ⟨b, ws, rfl, h1, h2⟩ := dicD_rv e ra r
      exact ⟨b, ws, rfl, h1, k.dic ra h2 h⟩
    · exact h.elim
  | [], _, h => exact (show False from h).elim
  | d :: _ :: _, _, h => exact (show False from h).elim
def rListD' : List V → Hp → VK → Prop := fun xs H Q => ∃ (a : Addr) (kvs : List (Key × V)), xs = [.ref a] ∧ Rd H a (.dK kvs) ∧ ∀ p, H p = none → Q (.ref p) (upd H p (.lst (kvs.map fun kv => kV kv.1)))
def rDictP (K : PySem.W.Frag) : List V → Hp → VK → Prop := fun xs H Q => ∃ (a : Addr) (ps : List Addr) (kvs : List (Key × V)), xs = [.ref a] ∧ SqL K H a (ps.map V.ref) ∧ Paired (fun p kv => SqT K H p [kV kv.1, kv.2]) ps kvs ∧
    ∀ p, H p = none → Q (.ref p) (upd H p (.dK (mergeK [] kvs)))
theorem alls_kv {L : Lk} {A : AH} {N : Addr → Prop} {H : Hp} : ∀ {xs : List D} {kvs : List (Key × D)} {vs : List V}, alls kv1 xs = some kvs → RVs L.K A N H xs vs → ∃ (ps : List Addr) (ws : List (Key × V)), vs = ps.map V.ref ∧ Paired (fun p kv => SqT L.K H p [kV kv.1, kv.2]) ps ws ∧ RKs L.K A N H kvs ws
  | [], kvs, vs, h, r => by cases h; rw [r.nil']; exact ⟨[], [], rfl, .nil, .nil⟩
  | x :: xs, kvs, vs, h, r => by
    obtain ⟨v, vr, rfl, r1, r2⟩ := r.cons'
    unfold alls at h
    split at h
    · next y ys e1 e2 =>
      cases h
      obtain ⟨ps, ws, rfl, h3, h4⟩ := alls_kv e2 r2
      match x, e1 with
      | .tup [k, d], e1 =>
        simp only [kv1] at e1
        obtain ⟨ky, e3, e4⟩ := Option.map_eq_some_iff.mp e1
        subst e4
        obtain ⟨a, us, rfl, h5, h6⟩ := rv_tup.mp r1
        obtain ⟨u1, u2, rfl, h7, h8⟩ := rvs2 h6
        rw [keyD_rv e3 h7] at h5
        exact ⟨a :: ps, (ky, u2) :: ws, rfl, .cons h5 h3, .cons rfl h8 h4⟩
    · cases h
/-- sorted(d): its keys, ints -/
def rSortD : List V → Hp → VK → Prop := fun xs H Q => ∃ (a : Addr) (kvs : List (Key × V)) (ks : List Int), xs = [.ref a] ∧ Rd H a (.dK kvs) ∧ kvs.map (·.1) = ks.map Sum.inl ∧ ∀ p, H p = none → Q (.ref p) (upd H p (.lst ((sortI ks).map V.int)))
theorem sorted_ints {prog : Program} {w : World} {A : Around} {E : Value → Shared → Prop} {s : Shared} {v : Value} {ks : List Int} {Q : Value → Shared → Prop} (hz : ks.length ≤ sizeLine)
    (hcol : ∀ R : List Value → Shared → Prop, (∀ h' tk acc, (∀ b o, s.heap.get? b = some o → h'.get? b = some o) → IntsAre acc ks → R acc { s with heap := h', toks := tk }) → wpAny (model prog w) A.in1 (collect v) R E s)
    (q : ∀ (h1 h2 : Heap) (tk : Nat) (out : List Value) (ep : Nat) (p : Addr), (∀ b o, s.heap.get? b = some o → h1.get? b = some o) → (∀ b o, h1.get? b = some o → h2.get? b = some o) → IntsAre out (sortI ks) → h1.objs.size ≤ p → h2.get? p = some (seqObj "list" out.toArray ep) → Q (.ref p) { s with heap := h2, toks := tk }) : wpAny (model prog w) A (call (.builtin "sorted") [v]) Q E s := by
  refine Calls.call_function_entry kind_sorted plain_sorted entry_sorted (args_sorted1 _) ?_
  unfold Builtin.«sorted»
  refine wpAny_bind (m := checkCount "sorted" 1 1 _) (wpAny_pure (wpAny_bind (hcol _ fun h' tk acc hk hS => ?_)))
  have hal : acc.length = ks.length := by
    clear hcol q
    induction hS with
    | nil => rfl
    | cons a b c ih => rw [List.length_cons, List.length_cons, ih (by rw [List.length_cons] at hz; omega)]
  refine wpAny_bind (wpAny_newList ?_ (by rw [hal]; exact hz))
  have hoL : (h'.push (seqObj "list" acc.toArray 0)).get? h'.objs.size = some (seqObj "list" acc.toArray 0) := Heap.get?_push_size _ rfl
  show wpAny _ _ _ _ _ { s with heap := h'.push (seqObj "list" acc.toArray 0), toks := tk }
  refine wpAny_bind (wpAny_holding (wpAny_call_entry slot_list_sort ⟨_, hoL, rfl⟩ entry_list_sort
    (SrtO.list_sort_ord (s := { s with heap := h'.push (seqObj "list" acc.toArray 0), toks := tk }) SrtO.swo_int hoL (by rw [hal]; exact hz) (fun h2 => SrtO.ints_sortable hS h2) fun out g1 g2 => ⟨_, rfl, ?_⟩) (args_list_sort _)))
  obtain ⟨k1, k2, k3⟩ := SrtO.ints_out hS g1 g2
  obtain ⟨e', he'⟩ := PyProof.Rows.sortedHeap_at (vs := acc) (out := out.toArray) hoL
  rw [sortI_eq k2 k3] at k1
  refine wpAny_pure ⟨_, rfl, q h' _ tk out e' h'.objs.size hk (fun b u e => ?_) k1 (Nat.le_refl _) he'⟩
  have hb : b < h'.objs.size := Heap.lt_size e
  rw [PyProof.Rows.sortedHeap_old (Nat.ne_of_lt hb) (by rw [size_push']; exact Nat.lt_succ_of_lt hb)]
  exact Heap.get?_push_of_some _ e
theorem cr_sortd (hcalm : X.calm = true) : CallR X (.builtin "sorted") rSortD := by
  intro pins s σ H xs us Q I r q
  obtain ⟨a, kvs, ks, ex, hd, hks, q⟩ := q
  subst ex
  obtain ⟨u, eu, rx⟩ := vals1 r
  subst eu
  cases rx
  obtain ⟨z, lo, vs, rel, dd⟩ := dk_rd I.hok hd
  obtain ⟨ep, hat⟩ := dd.dictAt
  have hkeys : vs.map (·.1) = ks.map Sum.inl := rel.keys.symm.trans hks
  have hl : vs.length = ks.length := by
    have e := congrArg List.length hkeys
    rw [List.length_map, List.length_map] at e
    exact e
  have h16 : vs.length ≤ sizeLine := by rw [← rel.length]; exact z
  refine sorted_ints (ks := ks) (by rw [← hl]; exact h16) (fun R hR => PySem.W.kdu_collect (A := X.A.in1) (PySem.W.kdl_dict (knd := mixKind X.prog X.w) (kvs := vs) (ep := ep) lo) (I.ok.hd hcalm) hat h16 fun h' tk acc hk hacc => hR h' tk acc.toList hk ?_) fun h1 h2 tk out e p k1 k2 hi hp he => ?_
  · have hal : acc.toList.length = ks.length := by rw [Array.length_toList, hacc.1, hl]
    exact ints_each hal fun j v e => by
      obtain ⟨k, x, e1, e2⟩ := hacc.2 j v (by rw [← Array.getElem?_toList]; exact e)
      have e3 : (vs.map (·.1))[j]? = some k := by rw [List.getElem?_map, e1]; rfl
      rw [hkeys, List.getElem?_map] at e3
      cases e4 : ks[j]? with
      | none => rw [e4] at e3; cases e3
      | some y =>
        rw [e4] at e3
        have e5 : Sum.inl y = k := Option.some.inj e3
        subst e5
        rcases keyIs_shape (show keyIs (Sum.inl y) v = true from e2) with ⟨i, t, ek, ev⟩ | ⟨z, t, ek, ev⟩
        · cases ek
          exact ⟨y, t, rfl, ev⟩
        · cases ek
  · have I1 : Inv X pins σ H { s with heap := h1, toks := tk } := I.kept k1
    have hlen : ((sortI ks).map V.int).length ≤ sizeLine := by
      rw [List.length_map, (sortI_perm ks).length_eq, ← hl]; exact h16
    exact ⟨.ref p, upd H p (.lst ((sortI ks).map V.int)), I1.laid (t' := tk) k2 hp (show ObjOk X.prog X.w _ _ _ (.lst ((sortI ks).map V.int)) from ⟨hlen, out, e, vals_of_ints hi, he⟩), rfl, q _ (I1.hok.fresh hp)⟩
theorem keys_int {kvs : List (Key × D)} : ∀ {ns : List Int}, alls int1 (kvs.map fun kv => ofKey kv.1) = some ns → kvs.map (·.1) = ns.map Sum.inl := by
  induction kvs with
  | nil => intro ns h; cases h; rfl
  | cons p r ih =>
    intro ns h
    rw [List.map_cons] at h
    unfold alls at h
    split at h
    · next y ys e1 e2 =>
      cases h
      rw [List.map_cons, List.map_cons, ih e2]
      cases q : p.1 with
      | inl i => rw [q] at e1; cases e1; rfl
      | inr x => rw [q] at e1; cases e1
    · cases h
theorem db_sortd {L : Lk} : DBi L rSortD (dBi .sortd) := by
  intro ds vs A N H Q Qd rv ra h k
  match ds, rv, h with
  | [d], rv, h =>
    obtain ⟨v, rfl, r⟩ := rvs1 rv
    have h : (match dicD A d with | some kvs => (match alls int1 (kvs.map fun kv => ofKey kv.1) with | some ns => newL A ((sortI ns).map .int) Qd | none => False) | none => False) := h
    split at h
    · next kvs e =>
      split at h
      · next ns e2 =>
        obtain ⟨b, ws, rfl, h1, h2⟩ := dicD_rv e ra r
        exact ⟨b, ws, ns, rfl, h1, by rw [← h2.1]; exact keys_int e2, k.lst ra (RVs.of_ints _) h⟩
      · exact h.elim
    · exact h.elim
  | [], _, h => exact (show False from h).elim
  | d :: _ :: _, _, h => exact (show False from h).elim
end
end DL

set_option Elab.async false
set_option linter.all false
set_option maxRecDepth 100000
/-! tuples of which is known that they have no dict of their own; dict(tuple) -/
namespace DL
open PySem PySem.Spec PyProof.Rows L2
section
variable {L : Lk} {G : Gm} {n : Nat} {X : Cx} {a b c e o f tg : Expr} {es : List Expr} {ia ib ic ie io ig : IE} {ies : List IE} {pos p p2 apos cpos : Pos} {x m : Str}
def PlT (H : Hp) (q : Addr) (vs : List V) : Prop := ∃ o, H q = some (.frz o (.tup vs)) ∧ o.dict = none
theorem Kt.ptp {A : AH} {N : Addr → Prop} {H : Hp} {Qd : QE} {Q : VK} {ds : List D} {vs : List V} {ob : Obj} (k : Kt L A N H Qd Q) (ra : RA L A N H) (r : RVs L.K A N H ds vs) (ho : ob.dict = none) (q : Qd (.ptp ds) A) : ∀ p, H p = none → Q (.ref p) (upd H p (.frz ob (.tup vs))) := fun p np =>
  k _ A _ _ (rv_ptp.mpr ⟨p, ob, vs, rfl, upd_same, ho, RVs.stay ((Ext.tupNew ra np).stay ra) _ _ r⟩) (ra.tupNew np) (Ext.tupNew ra np) q
theorem de_wk (he : DE L G n X e ie) : DE L G n X e (.wk ie) := fun C W tk =>
  pe_imp (he C W tk) fun σ H Q ⟨N, δ, A, Qd, Ed, rs, ra, h, hq, hx⟩ =>
    ⟨N, δ, A, _, Ed, rs, ra, h, fun d A' v H' r1 r2 e q => by
      cases d with
      | ptp xs =>
        obtain ⟨q', o, vs, rfl, h1, h2, h3⟩ := rv_ptp.mp r1
        exact hq (.tup xs) A' _ H' (rv_tup.mpr ⟨q', vs, rfl, .inl (.inr ⟨o, h1⟩), h3⟩) r2 e q
      | _ => exact hq _ A' v H' r1 r2 e q, hx⟩
def tPtd (t : TA) : TE := fun σ H Q => t σ H fun xs H1 => xs.length ≤ sizeLine ∧ ∀ p ob, H1 p = none → ob.dict = none → Q (.ref p) (upd H1 p (.frz ob (.tup xs)))
def rPtl (K : PySem.W.Frag) : List V → Hp → VK → Prop := fun xs H Q => ∃ p ys, xs = [.ref p] ∧ SqL K H p ys ∧ ∀ l ob, H l = none → ob.dict = none → Q (.ref l) (upd H l (.frz ob (.tup ys)))
theorem cr_ptl : CallR X (.type "tuple") (rPtl X.K) := by
  intro pins s σ H xs us Q I r h
  obtain ⟨p, ys, rfl, hq, q⟩ := h
  obtain ⟨u, rfl, rx⟩ := vals1 r
  cases rx
  obtain ⟨its, r', pl, hz⟩ := I.list hq
  have hlen := r'.length
  refine call_tuple_list pl.isList (fun h' kp => ?_) (by simp only [List.size_toArray] <;> omega)
  have I1 : Inv X pins σ H { s with heap := h' } := I.kept (t' := s.toks) kp
  have hp := Heap.get?_push_size h' (o := { cls := .type "tuple", data := .seq its.toArray }) rfl
  have I2 : Inv X pins σ (upd H h'.objs.size (.frz { cls := .type "tuple", data := .seq its.toArray } (.tup ys))) { s with heap := h'.push { cls := .type "tuple", data := .seq its.toArray } } :=
    I1.laid (t' := s.toks) (fun b o e => Heap.get?_push_of_some _ e) (Nat.le_refl _) (show ObjOk X.prog X.w _ _ _ (.frz _ (.tup ys)) from ⟨hp, hz, its, r', IsTup.new _ _⟩)
  exact ⟨.ref h'.objs.size, _, I2, rfl, q _ _ (I1.hok.fresh (Nat.le_refl _)) rfl⟩
theorem de_ptl (hg : Gl X "tuple") (hm : X.mg "tuple" = none) (ha : DE L G n X a ia) (he : starEach [a] X.env = (false, eval a X.env) :: starEach [] X.env) (hpl : (backTo pos (starEach [] X.env)).any (·.1) = false) : DE L G n X (.Call (.Name "tuple" p) [a] [] pos) (.ptl ia) := fun C W tk =>
  pe_imp (pe_callTy cr_ptl hg hm (by decide +kernel) (pa_cons (ha C W tk) pa_nil he) (by decide) (by decide) he hpl) fun σ H Q ⟨N, δ, A, Qd, Ed, rs, ra, h, hq, hx⟩ =>
    LE.use rs ra h (fun d A1 v1 H1 rv1 ra1 ex1 rs1 q1 => by
      split at q1
      · next xs e =>
        obtain ⟨q, vs, rfl, h1, h2⟩ := lstD_rv e ra1 rv1
        exact ⟨q, vs, rfl, by rw [C.K]; exact h1, fun p ob np ho => Kt.ptp (fun d A' v' H' r1 r2 e q => hq d A' v' H' r1 r2 (ex1.trans e) q) ra1 h2 ho q1 p np⟩
      · exact q1.elim) hx
end
/-! ### dict(tuple of pairs) -/
theorem tuple_keys_none : typeLookup (.type "tuple") "keys" = pure none := am_miss_of_fast (by first | decide +kernel | rfl)
section
variable {prog : Program} {w : World} {A : Around} {E : Value → Shared → Prop}
theorem miss_tuple {s : Shared} {a : Addr} {o : Obj} {xs : Array Value} {k : Nat} {Q : Option Value → Shared → Prop} (hx : s.heap.get? a = some o) (hc : o.cls = .type "tuple") (hdat : o.data = .seq xs k) (hd : o.dict = none) (hA : A.handled = none)
    (h : ∀ h' tk, (∀ b ob, s.heap.get? b = some ob → h'.get? b = some ob) → Q none { s with heap := h', toks := tk }) : wpAny (model prog w) A (getAttr? (.ref a) "keys") Q E s := by
  obtain ⟨c, dct, dat, sl⟩ := o
  simp only at hc hdat hd
  subst hc hdat hd
  obtain ⟨hp, g, d, tk, os⟩ := s
  have hT : ∀ tk', (⟨hp, g, d, tk', os⟩ : Shared).TypeIs (.ref a) "tuple" := fun _ => ⟨_, hx, rfl⟩
  have hmiss := tuple_keys_none
  have hname : (["__module__", "__name__", "__qualname__", "__doc__", "__annotations__"] : List Str).contains "keys" = false := by decide +kernel
  have hsz : ("keys" : Str).length + 100 ≤ sizeLine := by first | size_fits | decide +kernel
  have f1 := sub_AttributeError
  have f3 := PySem.F.slot_tuple_getattribute.lookup
  have f4 := PySem.F.slot_tuple_getattribute.bind (.ref a)
  have f5 := am_tuple_getattr_none
  unfold getAttr? getAttrBy? getAttrBy
  repeat (any_goals (first | assumption | exact hT _ | ((with_reducible show wpAny _ _ (call (Value.builtin "tuple.__getattribute__") _ _) _ _ _); refine call_meets PySem.F.slot_tuple_getattribute (hT _) am_entry_tuple_getattribute (PySem.F.args_tuple_getattribute_2 _ _) (meets_getattribute_miss_tuple a xs k sl "keys" _ hmiss hname hsz) ⟨hx, hA, fun h' tk' e hx' => ?_⟩) | wp_step))
  obtain ⟨t', u', he⟩ := hx'.there
  show wpAny _ _ (getattributeRaised _ _ _ _ _ _ _) _ _ _
  unfold getattributeRaised
  repeat (any_goals (first | assumption | wp_step))
  all_goals first | exact h _ _ hx'.keeps | (dsimp only; repeat (any_goals (first | assumption | exact h _ _ hx'.keeps | wp_step)))
theorem upd_loopT {R : Result → Shared → Prop} {S I l : Addr} {items : Array Value} {res : Value} (hh : A.handled = none) (hlI : l ≠ I) (hSI : S ≠ I) (hSl : S ≠ l) :
    ∀ (rest : List (Key × Value)) (i : Nat) (acc : List (Key × Value)) (ix : Int) (t : Tok) (s : Shared), items.size = i + rest.length → acc.length + rest.length ≤ sizeLine →
      (∀ (j : Nat) (q : Key × Value), rest[j]? = some q → ∃ (b : Addr) (u : Value), items[i + j]? = some (.ref b) ∧ b ≠ S ∧ b ≠ I ∧ IsTup s.heap b #[u, q.2] ∧ keyIs q.1 u = true) →
      s.heap.IsTupleIter I l i → s.heap.IsTuple l items → s.heap.DictOf (mixKind prog w) S acc →
      (∀ h' tk, h'.DictOf (mixKind prog w) S (merged acc rest) → (∀ b o, b ≠ S → b ≠ I → s.heap.get? b = some o → h'.get? b = some o) → R (.ok (.ret res)) { s with heap := h', toks := tk }) →
      codeAny (model prog w) A (.builtin "dict.update.loop" ⟨[.ref S, .ref I, .int ix t, res], []⟩) R s
  | [], i, acc, ix, t, s, hsz, hln, ht, hit, hl, hm, hR => by
    refine codeAny_builtin ud_entry ?_
    rw [Around.under_plainId ud_plain _]
    show wpAny _ A.in1 (pyNext (.ref I) >>= _) _ _ s
    refine wpAny_bind (wpAny_pyNext_tuple_end (A := A.in1) hh hit hl (by first | exact Array.getElem?_eq_none (Nat.le_of_eq hsz) | (simp at hsz; simp; omega)) fun h' he => ?_)
    show wpAny _ A.in1 (Builtin.Dict.addKeywords S [] >>= _) _ _ _
    refine wpAny_bind (wpAny_pure (wpAny_pure ?_))
    exact hR h' s.toks (hm.extBut he hSI) fun b o _ hb e => he b o hb e
  | q :: rest, i, acc, ix, t, s, hsz, hln, ht, hit, hl, hm, hR => by
    obtain ⟨b, u, hb, hbS, hbI, htup, hk⟩ := ht 0 q rfl
    rw [List.length_cons] at hsz hln
    refine codeAny_builtin ud_entry ?_
    rw [Around.under_plainId ud_plain _]
    show wpAny _ A.in1 (pyNext (.ref I) >>= _) _ _ s
    refine wpAny_bind (wpAny_pyNext_tuple_item (x := .ref b) hit hl (by simpa using hb) fun h1 hit1 hs1 => ?_)
    have ht1 : IsTup h1 b #[u, q.2] := htup.extBut hs1.extBut hbI
    have hl1 : h1.IsTuple l items := IsTup.extBut hl hs1.extBut hlI
    have hm1 : h1.DictOf (mixKind prog w) S acc := hm.extBut hs1.extBut hSI
    obtain ⟨o, ho, hc, n, hd⟩ := id ht1
    show wpAny _ A.in1 (holding [Value.ref b] _ >>= _) _ _ _
    refine wpAny_bind (wpAny_holding ?_)
    refine wpAny_bind (wpAny_tryCatch ?_)
    unfold Builtin.Dict.pairItems
    refine wpAny_bind (wpAny_typeOf (T := "tuple") ⟨o, ho, hc⟩ ?_)
    rw [if_pos (by first | decide | rfl | simp)]
    refine wpAny_bind (wpAny_seqItems ho hd (wpAny_pure ?_))
    show wpAny _ A.in1 (holding [u, q.2] (dictSet S u q.2)) _ _ _
    refine wpAny_holding (wpAny_dictSet_pairs (knd := mixKind prog w) (k := q.1) hk hm1 (fun h2 hm2 hs2 => ?_) (by omega))
    refine wpAny_pure ⟨plainId_quiet ud_plain _, upd_loopT (items := items) hh hlI hSI hSl rest (i + 1) (stored acc q.1 q.2) (ix + 1) 0 _ (show items.size = i + 1 + rest.length by omega) ?_ (fun j q' e => ?_) ?_ ?_ hm2 fun h' tk hd' k => ?_⟩
    · have z := stored_length_le acc q.1 q.2
      omega
    · obtain ⟨b', u', hb', hbS', hbI', htup', hk'⟩ := ht (j + 1) q' (by simpa using e)
      refine ⟨b', u', ?_, hbS', hbI', (htup'.extBut hs1.extBut hbI').extBut hs2.extBut hbS', hk'⟩
      rw [show i + 1 + j = i + (j + 1) by omega]
      exact hb'
    · exact hit1.at fun o' e => hs2.extBut I o' (Ne.symm hSI) e
    · exact IsTup.extBut hl1 hs2.extBut (Ne.symm hSl)
    · exact hR h' tk hd' fun c oc h3 h4 e => k c oc h3 h4 (hs2.extBut c oc h3 (hs1.extBut c oc h4 e))
theorem call_dict_pairsT {s : Shared} {l : Addr} {ol : Obj} {items : Array Value} {n : Nat} {prs : List (Key × Value)} {Q : Value → Shared → Prop} (hh : A.handled = none) (hl : s.heap.get? l = some ol) (hc : ol.cls = .type "tuple") (hd : ol.dict = none)
    (hdat : ol.data = .seq items n) (hsz : items.size = prs.length) (hln : prs.length ≤ sizeLine)
    (ht : ∀ (j : Nat) (q : Key × Value), prs[j]? = some q → ∃ (b : Addr) (u : Value), items[j]? = some (.ref b) ∧ IsTup s.heap b #[u, q.2] ∧ keyIs q.1 u = true)
    (h : ∀ h' tk, h'.DictOf (mixKind prog w) s.heap.objs.size (merged [] prs) → (∀ b o, s.heap.get? b = some o → h'.get? b = some o) → Q (.ref s.heap.objs.size) { s with heap := h', toks := tk }) :
    wpAny (model prog w) A (call (.type "dict") [.ref l]) Q E s := by
  refine callType_codes (Q₁ := fun obj s₁ => obj = .ref s.heap.objs.size ∧ s₁ = { s with heap := s.heap.push { cls := .type "dict", data := .dict #[] } }) PySem.F.kt_called_dict (PySem.F.kt_typeCall_dict_1 _) PySem.F.entry_dict_init (kt_code_dict_new _ ⟨rfl, rfl⟩) ?_
  rintro obj s₁ ⟨rfl, rfl⟩
  have hnew : (s.heap.push { cls := .type "dict", data := .dict #[] }).DictOf (mixKind prog w) s.heap.objs.size [] := Heap.DictOf.new s.heap
  have k0 : ∀ b o, s.heap.get? b = some o → (s.heap.push { cls := .type "dict", data := .dict #[] }).get? b = some o := fun b o e => Heap.get?_push_of_some _ e
  refine ⟨hnew.typeIs, PySem.F.args_dict_init_2 _ _, ?_⟩
  unfold Builtin.«dict.__init__»
  refine wpAny_bind ?_
  unfold Builtin.Dict.selfAndRest
  refine wpAny_bind (wpAny_notOrdered_dict hnew.typeIs ?_)
  show wpAny _ _ (pure (s.heap.objs.size, [Value.ref l])) _ _ _
  refine wpAny_pure ?_
  show wpAny _ _ (Builtin.Dict.updateFrom "dict.__init__" s.heap.objs.size (.ref l) [] .none) _ _ _
  unfold Builtin.Dict.updateFrom
  refine wpAny_bind (wpAny_typeOf (T := "tuple") ⟨ol, k0 _ _ hl, hc⟩ ?_)
  rw [if_pos (by first | decide | rfl | simp)]
  refine wpAny_bind (miss_tuple (k0 _ _ hl) hc hdat hd hh fun h1 tk1 hk1 => ?_)
  rw [if_pos (show (none : Option Value).isNone = true from rfl)]
  refine wpAny_bind (wpAny_rule ?_)
  have hl1 : h1.IsTuple l items := ⟨ol, hk1 _ _ (k0 _ _ hl), hc, n, hdat⟩
  have hS1 : s.heap.objs.size < h1.objs.size := by
    have e : (s.heap.push { cls := .type "dict", data := .dict #[] }).get? s.heap.objs.size = some { cls := .type "dict", data := .dict #[] } := Heap.get?_push_size _ rfl
    exact Heap.lt_size (hk1 _ _ e)
  refine wpAny_bind (wpAny_pyIter_tuple hl1 ?_)
  have k2 : ∀ b o, h1.get? b = some o → (h1.push { cls := .type "tuple_iterator", data := .fields #[.ref l, .int 0 0] }).get? b = some o := fun b o e => Heap.get?_push_of_some _ e
  have hlt : l < s.heap.objs.size := Heap.lt_size hl
  have key := upd_loopT (prog := prog) (w := w) (A := A.in1) (R := wants (fun r s₂ => r = .none ∧ Q (.ref s.heap.objs.size) s₂) E) (S := s.heap.objs.size) (I := h1.objs.size) (l := l) (items := items) (res := Value.none) hh
    (Nat.ne_of_lt (Nat.lt_trans hlt hS1)) (Nat.ne_of_lt hS1) (Nat.ne_of_gt hlt) prs 0 [] 0 0
    { s with heap := h1.push { cls := .type "tuple_iterator", data := .fields #[.ref l, .int 0 0] }, toks := tk1 } (by rw [hsz, Nat.zero_add]) (by rw [List.length_nil, Nat.zero_add]; exact hln)
    (fun j q e => by
      obtain ⟨b, u, e1, e2, e3⟩ := ht j q e
      have hb : b < s.heap.objs.size := e2.lt
      exact ⟨b, u, by rw [Nat.zero_add]; exact e1, Nat.ne_of_lt hb, Nat.ne_of_lt (Nat.lt_trans hb hS1), e2.keeps fun c o z => k2 _ _ (hk1 _ _ (k0 _ _ z)), e3⟩)
    ⟨_, Heap.get?_push_size _ rfl, rfl, rfl⟩ (IsTup.keeps hl1 fun b o e => k2 _ _ e) ((hnew.at fun o e => hk1 _ _ e).at fun o e => k2 _ _ e)
    (fun h' tk hd' k => ⟨rfl, h h' tk hd' fun b o e => k b o (Nat.ne_of_lt (Heap.lt_size e)) (Nat.ne_of_lt (Nat.lt_trans (Heap.lt_size e) hS1)) (k2 _ _ (hk1 _ _ (k0 _ _ e)))⟩)
  first
    | exact wpAny_pure ⟨plainId_quiet ud_plain _, key⟩
    | exact wpAny_bind (wpAny_pure (wpAny_pure ⟨plainId_quiet ud_plain _, key⟩))
end
section
variable {X : Cx}
def rDictT (K : PySem.W.Frag) : List V → Hp → VK → Prop := fun xs H Q => ∃ (a : Addr) (o : Obj) (ps : List Addr) (kvs : List (Key × V)), xs = [.ref a] ∧ H a = some (.frz o (.tup (ps.map V.ref))) ∧ o.dict = none ∧ Paired (fun p kv => SqT K H p [kV kv.1, kv.2]) ps kvs ∧
    ∀ p, H p = none → Q (.ref p) (upd H p (.dK (mergeK [] kvs)))
theorem cr_dictt (hcalm : X.calm = true) : CallR X (.type "dict") (rDictT X.K) := by
  intro pins s σ H xs us Q I r q
  obtain ⟨a, ob, ps, kvs, ex, hq, hd, hp, q⟩ := q
  subst ex
  obtain ⟨u, eu, rx⟩ := vals1 r
  subst eu
  cases rx
  obtain ⟨ho, hz, its, rv, ⟨o2, ho2, hc, n, hdat⟩⟩ := I.hok a _ hq
  have eo : ob = o2 := Option.some.inj (ho.symm.trans ho2)
  subst eo
  have ei := refs_at rv
  subst ei
  rw [List.length_map] at hz
  obtain ⟨prs, rel, hl, hpr⟩ := pairs_of I hp
  refine call_dict_pairsT (prs := prs) (I.ok.hd hcalm) ho hc hd hdat (by simp [hl]) (by rw [hl]; exact hz) (fun j q' e => ?_) fun h' tk hd' k => ?_
  · obtain ⟨b, u, e1, e2, e3⟩ := hpr j q' e
    exact ⟨b, u, by simp [e1], e2, e3⟩
  · have hm : (s.heap.objs.size == sysModules) = false := beq_eq_false_iff_ne.mpr (Nat.ne_of_gt I.big)
    have hlen : (mergeK [] kvs).length ≤ sizeLine := by
      refine Nat.le_trans (length_mergeK kvs []) ?_
      rw [List.length_nil, Nat.zero_add, rel.length, hl]
      exact hz
    exact ⟨.ref s.heap.objs.size, upd H s.heap.objs.size (.dK (mergeK [] kvs)), I.laid (t' := tk) k (Nat.le_refl _) (show ObjOk X.prog X.w _ _ _ (.dK (mergeK [] kvs)) from ⟨hlen, hm, merged [] prs, KV.merge rel .nil, hd'⟩), rfl, q _ (I.hok.fresh (Nat.le_refl _))⟩
theorem db_dictt {L : Lk} : DBi L (rDictT L.K) (dBi .dictt) := by
  intro ds vs A N H Q Qd rv ra h k
  match ds, rv, h with
  | [.ptp xs], rv, h =>
    obtain ⟨v, rfl, r⟩ := rvs1 rv
    have h : (match alls kv1 xs with | some kvs => newD A (mergeD [] kvs) Qd | none => False) := h
    split at h
    · next kvs e2 =>
      obtain ⟨b, o, ws, rfl, h1, h2, h3⟩ := rv_ptp.mp r
      obtain ⟨ps, us, rfl, h4, h5⟩ := alls_kv e2 h3
      exact ⟨b, o, ps, us, rfl, h1, h2, h4, k.dic ra (h5.merge .nil) h⟩
    · exact h.elim
  | [], _, h => exact (show False from h).elim
  | [.non], _, h => exact (show False from h).elim
  | [.bl _], _, h => exact (show False from h).elim
  | [.int _], _, h => exact (show False from h).elim
  | [.str _], _, h => exact (show False from h).elim
  | [.tup _], _, h => exact (show False from h).elim
  | [.rol _], _, h => exact (show False from h).elim
  | [.fl _], _, h => exact (show False from h).elim
  | [.rod _ _], _, h => exact (show False from h).elim
  | [.ref _], _, h => exact (show False from h).elim
  | d :: _ :: _, _, h => exact (show False from h).elim
end
end DL

set_option Elab.async false
set_option linter.all false
set_option maxRecDepth 100000
/-! raise, try -/
namespace DL
open PySem PySem.Spec PyProof.Rows L2
/-- what of the text an exception's class must have -/
structure ExC' (K : PySem.W.Frag) (C : Addr) : Prop where
  xP : PySem.W.excIn K C [.type "ValueError", .type "Exception", .type "BaseException", .type "object"] "ValueError.__new__" = true
  kP : PySem.W.keepIn K (.ref C) = true
  bP : PySem.W.subIn K (.ref C) (.type "BaseException") = some true
  tP : PySem.W.typeIn K (.ref C) = some (.type "type")
section
variable {X : Cx} {C : Addr} {bmB : List Value} {B newId initId : String}
theorem pmk_own0 {x : Str} {p pos : Pos} (F : ExcBaseFacts B newId initId bmB) (q : PySem.W.excIn X.K C bmB newId = true) (gC : X.mg x = some (.ref C)) (kC : PySem.W.keepIn X.K (.ref C) = true) (r : Raises X (.ref C)) (hg : Gl X x)
    (hdb : (x == ("__debug__" : Str)) = false) : PMk X (.Call (.Name x p) [] [] pos) (fun _ H Q => Q (.ref C) none H) := by
  intro pins s σ H Q I h
  refine wpAny_Call_Name_kw (ld_glob I hg gC ?_ hdb)
  refine PySem.W.callWith_K0 I.kIn kC ?_
  obtain ⟨bm, N, nm, qn, bs, hdct, sn, sub, ab, col, dd, k0, k1, k2, k3, k5, mN, hC, hN, hni, T⟩ := exc_obj I.kIn q
  refine wpAny_call_exc_subT F T hC hN hni (fun h' e hm => ?_) (by show 0 ≤ sizeLine; exact Nat.zero_le _)
  exact mk_of I hm r h (I.hok.gone hm.new)
end
section
variable {L : Lk} {G : Gm} {n : Nat} {X : Cx} {x y : Str} {p pos : Pos}
theorem ds_raiseP {i : Nat} {C : Addr} {pos' : Pos} (hi : L.XV i = .ref C) (R : ExC' L.K C) (gC : X.mg x = some (.ref C)) (hg : Gl X x) (hdb : (x == ("__debug__" : Str)) = false) : DS L G n X (.Raise (some (.Call (.Name x p) [] [] pos)) none pos') (.rais i) := fun Cn po W tk =>
  ps_imp (ps_raise Cn.calm tk (pmk_own0 PySem.F.excBase_ValueError (by rw [Cn.K]; exact R.xP) gC (by rw [Cn.K]; exact R.kP) (raises_own (by rw [Cn.K]; exact R.bP) (by rw [Cn.K]; exact R.tP)) hg hdb)) fun D σ H ⟨N, δ, A, P, rs, ra, h, hn, hr, hc, hx⟩ => by
    show W (.ref C) none σ H
    rw [← hi]
    exact hx i δ A σ H rs ra (Ext.refl _ _) h
theorem Cn.tr {pn : List (Addr × Obj)} {xe : Value → Shared → Prop} (C : Cn L G n X) : Cn L G n (X.tr pn xe) := ⟨C.K, C.calm, C.room, C.nd, C.fns, C.cls⟩
/-- a suite that is no more than quiet statements -/
def DQt (L : Lk) (G : Gm) (n : Nat) (X : Cx) (st : List Stmt) (is : List IS) : Prop := Cn L G n X → ∀ (a : Addr) (pn : List (Addr × Obj)), PSs (X.suite a pn) st (LS L W0 (wpSs (callN G n) G is))
end
end DL

set_option Elab.async false
set_option linter.all false
set_option maxRecDepth 100000
/-! enumerate, range with a step, enumerate(zip) -/
namespace DL
open PySem PySem.Spec PyProof.Rows L2
/-! ### enumerate(tuple) -/
def IteT (K : PySem.W.Frag) (a : Addr) : It :=
  ⟨fun i H => ∃ (xs : List V) (x : V), SqT K H a xs ∧ xs[i]? = some x, fun i H v H' => ∃ T x, v = .ref T ∧ H T = none ∧ H' = upd H T (.tup [.int (i : Nat), x]) ∧ ∀ xs, SqT K H a xs → xs[i]? = some x, fun i H => ∃ xs : List V, SqT K H a xs ∧ xs.length ≤ i⟩
end DL

set_option Elab.async false
set_option linter.all false
set_option maxRecDepth 100000
set_option maxHeartbeats 1000000
/-! enumerate(zip(a, b)) of two tuples: the zip's pair is told out to the enumerate, so that the zip finds it still there at its next turn (or gone: both ways) -/
namespace DL
open PySem PySem.Spec PyProof.Rows L2
open PySem.Sem (wp)
abbrev IsZipF (h : Heap) (z TI TO : Addr) (f0 : Value) (f : Bool) : Prop :=
  h.get? z = some { cls := .type "zip", dict := none, data := .fields #[f0, .bool f, .bool false, .ref TI, .ref TO], slots := #[] }
section
variable {prog : Program} {w : World} {A : Around} {E : Value → Shared → Prop} {s : Shared}
def ZipE (h : Heap) (z TI TO i1 i2 a b : Addr) (i : Nat) : Prop := ∃ (f0 : Value) (f : Bool) (x y : Value), (f0 = .none ∨ ∃ T : Addr, f0 = rawInt T) ∧ IsZipF h z TI TO f0 f ∧ IsPair h TI (.ref i1) (.ref i2) ∧ IsPair h TO x y ∧ h.IsTupleIter i1 a i ∧ h.IsTupleIter i2 b i
theorem gone {a : Addr} {Q : Option Obj → Shared → Prop} (ho : s.heap.get? a = none) (h : Q none s) : wpAny (model prog w) A (loadIfAlive a) Q E s := by
  have h' : Q (s.heap.get? a) s := by rw [ho]; exact h
  exact fun _ _ _ => h'
end
/-- the tuples at a and b, the items in new pairs, these by their places in new pairs -/
def ItzE (K : PySem.W.Frag) (a b : Addr) : It :=
  ⟨fun i H => ∃ (xs ys : List V) (x y : V), SqT K H a xs ∧ SqT K H b ys ∧ xs[i]? = some x ∧ ys[i]? = some y,
    fun i H v H' => ∃ T T1 x y, v = .ref T ∧ H T1 = none ∧ upd H T1 (.tup [x, y]) T = none ∧ H' = upd (upd H T1 (.tup [x, y])) T (.tup [.int (i : Nat), .ref T1]) ∧ (∀ xs, SqT K H a xs → xs[i]? = some x) ∧ ∀ ys, SqT K H b ys → ys[i]? = some y,
    fun i H => ∃ xs ys : List V, SqT K H a xs ∧ SqT K H b ys ∧ (xs.length ≤ i ∨ ys.length ≤ i)⟩
end DL

set_option Elab.async false
set_option linter.all false
set_option maxRecDepth 100000
namespace DL
open PySem PySem.Spec PyProof.Rows L2
open PySem.Sem (wp)
section
variable {prog : Program} {w : World} {A : Around} {E : Value → Shared → Prop} {s : Shared}
end
def iEnumA (K : PySem.W.Frag) (ta : TA) : TI := fun σ H R => ta σ H fun vs H1 => ∃ a xs, vs = [.ref a] ∧ ((SqL K H1 a xs ∧ R (Ite K a) H1) ∨ (SqT K H1 a xs ∧ R (IteT K a) H1))
def iEzip (K : PySem.W.Frag) (ta : TA) : TI := fun σ H R => ta σ H fun vs H1 => ∃ a b xs ys, vs = [.ref a, .ref b] ∧ SqT K H1 a xs ∧ SqT K H1 b ys ∧ R (ItzE K a b) H1
/-! ### the sources -/
section
variable {L : Lk} {G : Gm} {n : Nat} {X : Cx} {tg a b c e : Expr} {ia ib ic : IE} {pos p p2 pos2 : Pos} {A0 : AH} {N0 : Addr → Prop} {H0 : Hp}
/-! ### range with a step -/
end
end DL

set_option Elab.async false
set_option linter.all false
set_option maxRecDepth 100000
/-! slices of tuples with a step; short rules of the later constructs -/
namespace DL
open PySem PySem.Spec PyProof.Rows L2
section
variable {prog : Program} {w : World} {A : Around} {E : Value → Shared → Prop} {s : Shared}
end
theorem filterMap_rv {K : PySem.W.Frag} {A : AH} {N : Addr → Prop} {H : Hp} {ds : List D} {vs : List V} (r : RVs K A N H ds vs) (f : Nat → Nat) : ∀ l : List Nat, RVs K A N H (l.filterMap fun i => ds[f i]?) (l.filterMap fun i => vs[f i]?)
  | [] => .nil
  | i :: l => by
    rw [List.filterMap_cons, List.filterMap_cons]
    cases e : ds[f i]? with
    | none =>
      have e2 : vs[f i]? = none := by
        rw [List.getElem?_eq_none_iff] at e ⊢
        rw [← r.length]; exact e
      rw [e2]; exact filterMap_rv r f l
    | some d =>
      obtain ⟨v, e2, h⟩ := RVs.get r e
      rw [e2]; exact .cons h (filterMap_rv r f l)
theorem RVs.step {K : PySem.W.Frag} {A : AH} {N : Addr → Prop} {H : Hp} {ds : List D} {vs : List V} (r : RVs K A N H ds vs) (k : Nat) : RVs K A N H (stepL k ds) (stepL k vs) := by
  unfold stepL
  rw [r.length]
  exact filterMap_rv r (fun i => i * k) _
section
variable {L : Lk} {G : Gm} {n : Nat} {X : Cx} {a b c d e o : Expr} {es : List Expr} {ia ib ic id ie io : IE} {ies : List IE} {pos p p1 p2 p3 apos cpos : Pos} {x y f m : Str} {t : Tg}
def tStepT (K : PySem.W.Frag) (k : Nat) (te : TE) : TE := fun σ H Q => te σ H fun x H1 => ∃ q xs, x = .ref q ∧ SqT K H1 q xs ∧ ∀ p, H1 p = none → Q (.ref p) (upd H1 p (.tup (stepL k xs)))
/-! ### short rules -/
theorem hu65 {n : Nat} {X : Cx} {L : Lk} {G : Gm} (C : Cn L G n X) : X.A.units + 65 < cLine := by have := C.room.un; omega
theorem kinT (ha : DE L G n X a ia) (hb : DE L G n X b ib) (hm : behindInMarks .In b = false := by rfl) : DT L G n X (.Compare a [.In] [b] pos) (.val (.cmp .kin ia ib)) := fun C => dt_cmp (op_kin (hu_of C.room)) (fun _ => dop_kin) hm ha hb C
theorem nkinT (ha : DE L G n X a ia) (hb : DE L G n X b ib) (hm : behindInMarks .NotIn b = false := by rfl) : DT L G n X (.Compare a [.NotIn] [b] pos) (.val (.cmp .nkin ia ib)) := fun C => dt_cmp (op_nkin (hu_of C.room)) (fun _ => dop_nkin) hm ha hb C
theorem ndinT (ha : DE L G n X a ia) (hb : DE L G n X b ib) (hm : behindInMarks .NotIn b = false := by rfl) : DT L G n X (.Compare a [.NotIn] [b] pos) (.val (.cmp .ndin ia ib)) := fun C => dt_cmp (op_ninDp (hu65 C)) (fun h => by rw [h]; exact dop_ndin) hm ha hb C
theorem b_sortd : BiR L X "sorted" (.builtin "sorted") .sortd := ⟨.inl ⟨_, rfl, _, cr_sortd, fun _ => db_sortd⟩, by decide +kernel, by decide, by decide⟩
theorem b_dict : BiR L X "dict" (.type "dict") .dict := ⟨.inr ⟨_, rfl, rDictD, fun _ => call_dictD, fun _ => db_dict⟩, by decide +kernel, by decide, by decide⟩
theorem b_dictt : BiR L X "dict" (.type "dict") .dictt := ⟨.inr ⟨_, rfl, _, fun h => cr_dictt h, fun h => by rw [h]; exact db_dictt⟩, by decide +kernel, by decide, by decide⟩
theorem get2_ (ho : DE L G n X o io) (ha : DE L G n X a ia) (hb : DE L G n X b ib) (mm : M2 X o "get" apos a b cpos := by exact ⟨rfl, rfl, rfl, rfl⟩) : DE L G n X (.Call (.Attribute o "get" apos) [a, b] [] cpos) (.bm .get io [ia, ib]) := de_get2 ho ha hb mm
theorem dpop1_ (ho : DE L G n X o io) (ha : DE L G n X a ia) (mm : M1 X o "pop" apos a cpos := by exact ⟨rfl, rfl, rfl, rfl⟩) : DE L G n X (.Call (.Attribute o "pop" apos) [a] [] cpos) (.bm .dpop io [ia]) := de_dpop1 ho ha mm
theorem dpop2_ (ho : DE L G n X o io) (ha : DE L G n X a ia) (hb : DE L G n X b ib) (mm : M2 X o "pop" apos a b cpos := by exact ⟨rfl, rfl, rfl, rfl⟩) : DE L G n X (.Call (.Attribute o "pop" apos) [a, b] [] cpos) (.bm .dpop io [ia, ib]) := de_dpop2 ho ha hb mm
theorem fld_ {C i : Nat} {cd : ClD} (hf : (L.FN C)[i]? = some f) (ho : DE L G n X o io) (hC : G.cl C = some cd := by rfl) (hb : attributeBase o f X.env (eval o X.env) = eval o X.env := by rfl) : DE L G n X (.Attribute o f pos) (.fld C i io) := de_fld hC hf ho hb
theorem meth_ {k : Nat} {pl : Sem Bool} (hm : L.MN k = m) (ho : DE L G n X o io) (ha : DA L G n X (e :: es) ies)
    (hst : starEach (e :: es) X.env = (false, eval e X.env) :: starEach es X.env := by rfl) (hpl : (backTo pos (starEach es X.env)).any (·.1) = false := by rfl)
    (ht : eval (.Call (.Attribute o m apos) (e :: es) [] pos) X.env = (do
      let ov ← eval o X.env
      standAt apos.atName
      let (f, first) ← holding [ov] (getMethod ov m pl)
      callWith pos f first (backTo pos (starEach (e :: es) X.env)) (backToKw pos (keywordEach [] X.env))) := by rfl) : DE L G n X (.Call (.Attribute o m apos) (e :: es) [] pos) (.meth k io ies) := de_meth hm ho ha hst hpl ht
theorem meth0_ {k : Nat} {pl : Sem Bool} (hm : L.MN k = m) (ho : DE L G n X o io)
    (ht : eval (.Call (.Attribute o m apos) [] [] pos) X.env = (do
      let ov ← eval o X.env
      standAt apos.atName
      let (f, first) ← holding [ov] (getMethod ov m pl)
      callWith pos f first (backTo pos (starEach [] X.env)) (backToKw pos (keywordEach [] X.env))) := by rfl) : DE L G n X (.Call (.Attribute o m apos) [] [] pos) (.meth k io []) := de_meth0 hm ho ht
theorem make_ {k : Nat} {cd : ClD} (hm : X.mg x = some (.ref (L.CA k))) (ha : DA L G n X (e :: es) ies) (hC : G.cl k = some cd := by rfl) (hg : Gl X x := by rfl) (hdb : (x == ("__debug__" : Str)) = false := by decide)
    (he : starEach (e :: es) X.env = (false, eval e X.env) :: starEach es X.env := by rfl) (hpl : (backTo pos (starEach es X.env)).any (·.1) = false := by rfl) : DE L G n X (.Call (.Name x p) (e :: es) [] pos) (.make k ies) := de_make hC hg hm ha hdb he hpl
theorem s_put {C i : Nat} {cd : ClD} (hf : (L.FN C)[i]? = some f) (he : DE L G n X e ie) (ho : DE L G n X o io) (hC : G.cl C = some cd := by rfl) (hs : swapsWith e (some (.Attribute o f p)) pos.line X.env = pure false := by rfl) : DS L G n X (.Assign [.Attribute o f p] e pos) (.put C i io ie) := ds_put hC hf he ho hs
theorem ptl_ (hm : X.mg "tuple" = none) (ha : DE L G n X a ia) (hg : Gl X "tuple" := by rfl) (he : starEach [a] X.env = (false, eval a X.env) :: starEach [] X.env := by rfl) (hpl : (backTo pos (starEach [] X.env)).any (·.1) = false := by rfl) : DE L G n X (.Call (.Name "tuple" p) [a] [] pos) (.ptl ia) := de_ptl hg hm ha he hpl
/-- what is known of an exception's class -/
structure ExT (L : Lk) (mg : Str → Option Value) (x : Str) (i : Nat) : Prop where
  ex : ∃ C, L.XV i = .ref C ∧ ExC' L.K C ∧ mg x = some (.ref C)
theorem rais_ {i : Nat} {pos' : Pos} (T : ExT L X.mg x i) (hg : Gl X x := by rfl) (hdb : (x == ("__debug__" : Str)) = false := by decide) : DS L G n X (.Raise (some (.Call (.Name x p) [] [] pos)) none pos') (.rais i) := let ⟨_, h1, h2, h3⟩ := T.ex; ds_raiseP h1 h2 h3 hg hdb

/-! ### try -/
structure ExN (L : Lk) (mg : Str → Option Value) (x : Str) (xs : List Nat) : Prop where
  ex : ∃ c, mg x = some c ∧ ∀ i ∈ xs, PySem.W.exmOne L.K (L.XV i) c = some true
end
end DL
namespace DL
def ClsD (R : Nat → ClD → Prop) : List (Nat × ClD) → Prop
  | [] => True
  | (c, d) :: t => R c d ∧ ClsD R t
theorem clsD_get {R : Nat → ClD → Prop} : ∀ {t : List (Nat × ClD)}, ClsD R t → ∀ c d, t.lookup c = some d → R c d
  | [], _, _, _, h => by simp at h
  | (c', d') :: t, h, c, d, e => by
    rw [List.lookup_cons] at e
    by_cases q : c = c'
    · subst q; simp at e; subst e; exact h.1
    · rw [beq_eq_false_iff_ne.mpr q] at e
      exact clsD_get h.2 c d e
def ClMs (R : Nat → Nat → Prop) : List (Nat × Nat) → Prop
  | [] => True
  | (c, d) :: t => R c d ∧ ClMs R t
theorem clMs_get {R : Nat → Nat → Prop} : ∀ {t : List (Nat × Nat)}, ClMs R t → ∀ c d, t.lookup c = some d → R c d
  | [], _, _, _, h => by simp at h
  | (c', d') :: t, h, c, d, e => by
    rw [List.lookup_cons] at e
    by_cases q : c = c'
    · subst q; simp at e; subst e; exact h.1
    · rw [beq_eq_false_iff_ne.mpr q] at e
      exact clMs_get h.2 c d e
theorem exm_own {K : PySem.W.Frag} {C : PySem.Addr} (hb : PySem.W.subIn K (PySem.Value.ref C) (PySem.Value.type "BaseException") = some true) (hi : PySem.W.isClsIn K C = true) (ht : PySem.W.typeIn K (PySem.Value.ref C) = some (PySem.Value.type "type")) (hs : PySem.W.subIn K (PySem.Value.ref C) (PySem.Value.ref C) = some true) : PySem.W.exmOne K (PySem.Value.ref C) (PySem.Value.ref C) = some true := by
  unfold PySem.W.exmOne
  rw [hb, if_pos (by decide)]
  show (if ((PySem.W.clsIn K C).isSome && PySem.W.typeIn K (PySem.Value.ref C) == some (PySem.Value.type "type")) = true then PySem.W.subIn K (PySem.Value.ref C) (PySem.Value.ref C) else none) = some true
  rw [show (PySem.W.clsIn K C).isSome = true from hi, ht, if_pos (by decide)]
  exact hs
end DL

set_option Elab.async false
set_option linter.all false
set_option maxRecDepth 100000
namespace DL
open PySem PySem.Spec PyProof.Rows L2
/-! ### sorted(set(xs)) -/
/-- a set that holds nothing yet -/
abbrev set0 (w : World) : Obj := { cls := .type "set", dict := none, data := .set #[] 0 (.fresh 0 0 (!w.params.followText "set-order")) }
section
variable {P : Program} {w : World} {A : Around} {E : Value → Shared → Prop} {s : Shared}
end
end DL

set_option Elab.async false
set_option linter.all false
set_option maxRecDepth 100000
/-! sorted(d.items()) -/
namespace DL
open PySem PySem.Spec PyProof.Rows L2
section
variable {P : Program} {w : World} {A : Around} {E : Value → Shared → Prop} {s : Shared}
/-- sorted(x), by what x's things are in the heap they are gathered in -/
theorem sorted_gen {x : Addr} {good : Heap → List Value → Prop} {lt : Heap → Value → Value → Bool} {Q : Value → Shared → Prop}
    (hO : ∀ g, SrtO.Swo (lt g))
    (gather : ∀ R : List Value → Shared → Prop, (∀ (s1 : Shared) (us : List Value), (∀ b o, s.heap.get? b = some o → s1.heap.get? b = some o) → s1.gens = s.gens → s1.os = s.os → good s1.heap us → R us s1) → wpAny (model P w) A.in1 (collect (.ref x)) R E s)
    (few : ∀ g us, good g us → us.length ≤ sizeLine)
    (cmp : ∀ (s1 : Shared) (us : List Value) (b : PySem.Addr), good s1.heap us → 2 ≤ us.length → s1.heap.objs.size = b → SrtO.SortableO P w A.in1.in1 { s1 with heap := s1.heap.push (seqObj "list" us.toArray 0) } b us (lt s1.heap))
    (q : ∀ (s1 : Shared) (g2 : Heap) (us out : List Value) (e : Nat) (b : PySem.Addr), good s1.heap us → (∀ b o, s.heap.get? b = some o → s1.heap.get? b = some o) → s1.gens = s.gens → s1.os = s.os → (∀ b o, s1.heap.get? b = some o → g2.get? b = some o) → SrtO.Srtd (lt s1.heap) out → SrtO.Stb (lt s1.heap) out us → s1.heap.objs.size ≤ b → g2.get? b = some (seqObj "list" out.toArray e) → Q (.ref b) { s1 with heap := g2 }) :
    wpAny (model P w) A (call (.builtin "sorted") [.ref x]) Q E s := by
  refine Calls.call_function_entry kind_sorted plain_sorted entry_sorted (args_sorted1 _) ?_
  unfold Builtin.«sorted»
  refine wpAny_bind (m := checkCount "sorted" 1 1 _) (wpAny_pure (wpAny_bind (gather _ fun s1 us keep eg eo hg => ?_)))
  have hz := few s1.heap us hg
  refine wpAny_bind (wpAny_newList ?_ hz)
  have at0 : (s1.heap.push (seqObj "list" us.toArray 0)).get? s1.heap.objs.size = some (seqObj "list" us.toArray 0) := Heap.get?_push_size _ rfl
  show wpAny _ _ _ _ _ { s1 with heap := s1.heap.push (seqObj "list" us.toArray 0) }
  refine wpAny_bind (wpAny_holding (wpAny_call_entry slot_list_sort ⟨_, at0, rfl⟩ entry_list_sort
    (SrtO.list_sort_ord (s := { s1 with heap := s1.heap.push (seqObj "list" us.toArray 0) }) (hO s1.heap) at0 hz (fun h2 => cmp s1 us _ hg h2 rfl) fun out g1 g2 => ⟨_, rfl, ?_⟩) (args_list_sort _)))
  obtain ⟨ep, he⟩ := PyProof.Rows.sortedHeap_at (vs := us) (out := out.toArray) at0
  refine wpAny_pure ⟨_, rfl, q s1 _ us out ep s1.heap.objs.size hg keep eg eo (fun b u e => ?_) g1 g2 (Nat.le_refl _) he⟩
  have hb : b < s1.heap.objs.size := Heap.lt_size e
  rw [PyProof.Rows.sortedHeap_old (Nat.ne_of_lt hb) (by rw [size_push']; exact Nat.lt_succ_of_lt hb)]
  exact Heap.get?_push_of_some _ e
end
section
variable {X : Cx}
/-- tuples of a dict's items, laid -/
theorem tups_laid {pins : List (Addr × Obj)} {σ : L2.St} {H : Hp} {s s2 : Shared} {kvs : List (Key × V)} {us : List (Key × Value)} {lo : Addr} {ts : List Addr} (I : Inv X pins σ H s) (kv : KV kvs us)
    (keep : ∀ b o, s.heap.get? b = some o → s2.heap.get? b = some o) (eg : s2.gens = s.gens) (eo : s2.os = s.os) (low : s.heap.objs.size ≤ lo) (len : ts.length = us.length) (made : PySem.W.KdxG (mixKind X.prog X.w) us lo s2.heap ts) :
    ∃ H' : Hp, (∀ b o, H b = some o → H' b = some o) ∧ Paired (fun (t : Addr) (p : Key × V) => H' t = some (.tup [kV p.1, p.2])) ts kvs ∧ Inv X pins σ H' s2 := by
  have same : kvs.length = us.length := Paired.length kv
  have once : ts.Nodup := made.rise.imp fun {a b} (h : a < b) => Nat.ne_of_lt h
  have fresh : ∀ t ∈ ts, H t = none := fun t ht => I.hok.fresh (Nat.le_trans low (Nat.le_of_lt (made.above t ht)))
  have there := LiI.putT_at ts kvs H (len.trans same.symm) once
  have away : ∀ b, b ∉ ts → LiI.putT H ts kvs b = H b := fun b => LiI.putT_off ts kvs H
  have old : ∀ b o, s.heap.get? b = some o → b ∉ ts := fun b o e ht =>
    absurd (Heap.lt_size e) (Nat.not_lt.mpr (Nat.le_trans low (Nat.le_of_lt (made.above b ht))))
  have ext : ∀ b u, H b = some u → LiI.putT H ts kvs b = some u := fun b u e => by
    rw [away b fun ht => by rw [fresh b ht] at e; cases e]; exact e
  refine ⟨LiI.putT H ts kvs, ext, there, ?_⟩
  refine I.call' (ch := []) eo ⟨fun b o q _ _ _ => keep b o q, fun b o q _ _ _ => ⟨o.slots, keep b o q⟩, fun b o q n _ => (away b (old b o q)).trans n, fun b o q _ => ⟨o, keep b o q⟩, fun b xs q => ext b _ q, fun b o u q => ext b _ q, fun b ps q => ⟨#[], by rw [ext b _ q]; simp⟩⟩ (fun b u q => ?_) (by rw [eg]; exact I.bare) fun b z => by simp at z
  by_cases hb : b ∈ ts
  · obtain ⟨j, p, e1, e2, e3⟩ := LiI.paired_ix there hb
    rw [e3] at q; cases q
    obtain ⟨key, k, v, f1, f2, f3⟩ := made.pairs j b e1
    obtain ⟨_, g1, g2, g3⟩ := LiI.paired_get kv e2
    rw [f1] at g1; cases g1
    exact ⟨by show 2 ≤ sizeLine; decide, [key, v], .cons (by rw [g2]; exact relV_key (show keyIs k key = true from f2)) (.cons g3 .nil), ⟨_, f3, rfl, _, rfl⟩⟩
  · rw [away b hb] at q
    exact (I.hok b u q).stay (fun d v _ y => keep d v y) (fun d y => ext d _ y) fun d xs y => ext d _ y
/-- sorted(d.items()), ints by ints -/
def rSItems : V → Hp → VK → Prop := fun x H Q => ∃ (d : Addr) (ps : List (Int × Int)), x = .ref d ∧ H d = some (.dK (ps.map fun p => ((Sum.inl p.1 : Key), V.int p.2))) ∧
  ∀ (H' : Hp) (ys : List V) (b : Addr), (∀ b o, H b = some o → H' b = some o) → Paired (kP X.K H') ys (sortP ps) → H' b = none → Q (.ref b) (upd H' b (.lst ys))
end
def tSItems (K : PySem.W.Frag) (te : TE) : TE := fun σ H Q => te σ H fun x H1 => ∃ (d : Addr) (ps : List (Int × Int)), x = .ref d ∧ H1 d = some (.dK (ps.map fun p => ((Sum.inl p.1 : Key), V.int p.2))) ∧
  ∀ (H' : Hp) (ys : List V) (b : Addr), (∀ b o, H1 b = some o → H' b = some o) → Paired (kP K H') ys (sortP ps) → H' b = none → Q (.ref b) (upd H' b (.lst ys))
theorem pairs_of {K : PySem.W.Frag} {g : Heap} {H' : Hp} : ∀ {ts : List Addr} {ps : List (Int × Int)}, (∀ t, (∃ x ∈ ts, x = t) → ∀ i j, H' t = some (.tup [.int i, .int j]) → Srt.IsPair g (.ref t) i j) → Paired (fun (t : Addr) (p : Key × V) => H' t = some (.tup [kV p.1, p.2])) ts (ps.map fun p => ((Sum.inl p.1 : Key), V.int p.2)) →
    (ts.map Value.ref).map (kH g) = ps ∧ ∀ u ∈ ts.map Value.ref, Srt.IsPair g u (kH g u).1 (kH g u).2 ∧ kP K H' (backV u) (kH g u)
  | [], [], _, _ => ⟨rfl, fun u h => by cases h⟩
  | [], _ :: _, _, h => by cases h
  | _ :: _, [], _, h => by cases h
  | t :: ts, p :: ps, hp, .cons h1 h2 => by
    obtain ⟨e1, e2⟩ := pairs_of (K := K) (fun t ⟨x, hx, e⟩ => hp t ⟨x, List.mem_cons_of_mem _ hx, e⟩) h2
    have ip := hp t ⟨t, List.mem_cons_self, rfl⟩ p.1 p.2 h1
    have ek := kH_of ip
    refine ⟨by rw [List.map_cons, List.map_cons, e1, ek], fun u hu => ?_⟩
    rw [List.map_cons] at hu
    rcases List.mem_cons.mp hu with e | hu
    · subst e; rw [ek]; exact ⟨ip, t, rfl, SqT.of h1⟩
    · exact e2 u hu
section
variable {X : Cx} {e : Expr} {te : TE} {p apos cpos pos : Pos}
theorem pe_sitems (hc : X.calm = true) (he : PE X e te) (hg : Gl X "sorted") (hm : X.mg "sorted" = none) (hbase : attributeBase e "items" X.env (eval e X.env) = eval e X.env := by rfl) (hline : (apos.endLine == cpos.line) = true := by rfl)
    (hs : starEach [.Call (.Attribute e "items" apos) [] [] cpos] X.env = (false, eval (.Call (.Attribute e "items" apos) [] [] cpos) X.env) :: starEach [] X.env := by rfl) :
    PE X (.Call (.Name "sorted" p) [.Call (.Attribute e "items" apos) [] [] cpos] [] pos) (tSItems X.K te) := by
  refine ⟨fun pins s σ H Q I hq => ?_⟩
  refine Call_ (ld_blt I hg hm (show bootBuiltins "sorted" = some (.builtin "sorted") by decide +kernel) ?_)
  refine PyProof.Rows.callWith_builtin1 (PyProof.Rows.args_cons ?_ hs) hs rfl
  refine wpAny_Call_method (T := "dict") (id := "dict.items") hbase rfl hline F.plainAttrs_dict F.slot_dict_items F.type_dict_items (thn (he.run pins s σ H _ I hq) fun u s1 ⟨x, H1, I1, rx, d, ps, ex, hd, q⟩ => ?_)
  subst ex
  cases rx
  obtain ⟨hz, hs0, us, kv, hdo⟩ := I1.hok d _ hd
  obtain ⟨ep, hat⟩ := hdo.dictAt
  have same := Paired.length kv
  rw [List.length_map] at same hz
  have I2 : Inv X pins σ H1 { s1 with heap := s1.heap.push { cls := .type "dict_items", data := .fields #[.ref d] } } := I1.kept (t' := s1.toks) fun b ob z => Heap.get?_push_of_some _ z
  refine ⟨hdo.typeIs, hdo.mapOf.noDict, ?_⟩
  show wpAny _ _ (callWith cpos (.builtin "dict.items") [.ref d] [] []) _ X.xe s1
  refine method_meetsIn F.slot_dict_items F.entry_dict_items rfl (PySem.evalArgs_none ⟨rfl, hdo.typeIs, F.args_dict_items_1 _, _, meets_dict_items (mixKind X.prog X.w) d hs0, ⟨us, hdo⟩, ?_⟩)
  refine PyProof.Rows.args_nil ?_
  refine sorted_gen (good := fun g zs => zs.length = ps.length ∧ zs.map (kH g) = ps ∧ (∀ z ∈ zs, ∃ b, z = Value.ref b) ∧ (∀ z ∈ zs, Srt.IsPair g z (kH g z).1 (kH g z).2) ∧ ∃ H' : Hp, (∀ b o, H1 b = some o → H' b = some o) ∧ (∀ z ∈ zs, kP X.K H' (backV z) (kH g z)) ∧ HOk X.prog X.w H' g ∧ ∃ s2 : Shared, s2.gens = s1.gens ∧ s2.os = s1.os ∧ s2.heap = g ∧ Inv X pins σ H' s2)
    (lt := fun g v u => SrtO.lexB (kH g v) (kH g u)) (fun g => SrtO.swo_lex (kH g)) (fun R k => ?_) (fun g zs hg => ?_) (fun sg zs b hg h2 hb => ?_) (fun sg g2 zs out ep b hg keep eg eo keep2 h1 h2 hb at2 => ?_)
  · refine PySem.W.kdx_collect (knd := mixKind X.prog X.w) (kvs := us) (ep := ep) (I2.ok.hd hc) ⟨_, Heap.get?_push_size _ rfl, rfl, rfl⟩ (hat.push _) (by rw [← same]; exact hz) fun g tk ts keep len made => ?_
    refine k { s1 with heap := g, toks := tk } (ts.map Value.ref) keep rfl rfl ?_
    obtain ⟨H', e1, e2, J⟩ := tups_laid (s2 := { s1 with heap := g, toks := tk }) I2 kv keep rfl rfl (Nat.le_refl _) len made
    obtain ⟨f1, f2⟩ := pairs_of (K := X.K) (g := g) (H' := H') (ts := ts) (ps := ps) (fun t _ i j ht => by
      obtain ⟨_, its2, rr, o, ho, hcl, n, hda⟩ := J.hok t _ ht
      obtain ⟨u1, u2, rfl, ⟨t1, rfl⟩, ⟨t2, rfl⟩⟩ := Vals.two rr
      exact ⟨t, o, t1, t2, n, rfl, ho, hcl, hda⟩) e2
    exact ⟨by rw [List.length_map, len, same], f1, fun z hz => by obtain ⟨t, _, rfl⟩ := List.mem_map.mp hz; exact ⟨t, rfl⟩, fun z hz => (f2 z hz).1, H', e1, fun z hz => (f2 z hz).2, J.hok, { s1 with heap := g, toks := tk }, rfl, rfl, rfl, J⟩
  · rw [hg.1]; exact hz
  · subst hb
    refine SrtO.pairs_sortableO (by omega) (fun z hz => (hg.2.2.2.1 z hz).keeps fun b o e _ => Heap.get?_push_of_some _ e) fun o e => ?_
    have e' : some o = some (seqObj "list" zs.toArray 0) := e.symm.trans (Heap.get?_push_size _ rfl)
    cases e'
    intro c
    exact absurd (Value.type.inj c) (by decide)
  · obtain ⟨hl, hm2, hr, hp, H', e1, e2, ok, s2, eg2, eo2, eh2, J⟩ := hg
    have J : Inv X pins σ H' sg := J.call' (ch := []) (s' := sg) (eo.trans eo2.symm) (Un.kept fun b o z => by rw [eh2] at z; exact z) ok (by rw [eg]; exact I2.bare) fun b z => by simp at z
    have h3 : ∀ u ∈ out, u ∈ zs := fun u hu => h2.perm.mem_iff.mp hu
    have es : out.map (kH sg.heap) = sortP ps := by
      refine sortP_eq (by rw [← hm2]; exact h2.perm.map _) ?_
      refine List.pairwise_map.mpr (h1.imp fun {x y} h => ?_)
      have h := SrtO.lexB_no.mp h
      rw [leP_iff]
      omega
    have pr : ∀ us : List Value, (∀ u ∈ us, u ∈ zs) → Paired (kP X.K H') (us.map backV) (us.map (kH sg.heap)) := by
      intro us
      induction us with
      | nil => intro _; exact .nil
      | cons u r ih => intro h; exact .cons (e2 u (h u List.mem_cons_self)) (ih fun v hv => h v (List.mem_cons_of_mem _ hv))
    refine ⟨.ref b, _, J.laid (t' := sg.toks) (o := .lst (out.map backV)) keep2 hb ⟨?_, out, ep, vals_back fun u hu => hr u (h3 u hu), at2⟩, rfl, q H' _ b e1 (by rw [← es]; exact pr out h3) (J.hok.fresh hb)⟩
    rw [List.length_map, h2.perm.length_eq, hl]
    exact hz
end
def tSSet (K : PySem.W.Frag) (te : TE) : TE := fun σ H Q => te σ H fun x H1 => ∃ (l : Addr) (ns : List Int), x = .ref l ∧ SqL K H1 l (ns.map V.int) ∧ ns.length ≤ 1000 ∧ ∀ b, H1 b = none → Q (.ref b) (upd H1 b (.lst ((sortI (ddI ns)).map V.int)))
section
variable {X : Cx} {e : Expr} {te : TE} {p p2 q2 pos : Pos}
end
section
variable {L : Lk} {G : Gm} {n : Nat} {X : Cx} {e : Expr} {ie : IE} {p p2 q2 apos cpos pos : Pos}
theorem of_ints_kv {kvs : List (Key × D)} : ∀ {ps : List (Int × Int)}, alls pr1 (kvs.map fun kv => D.tup [ofKey kv.1, kv.2]) = some ps → kvs = ps.map fun p => ((Sum.inl p.1 : Key), D.int p.2) := by
  induction kvs with
  | nil => intro ps h; cases h; rfl
  | cons x r ih =>
    intro ps h
    obtain ⟨k, d⟩ := x
    rw [List.map_cons] at h
    unfold alls at h
    cases k with
    | inr z => cases d <;> simp [pr1, ofKey] at h
    | inl i =>
      cases d with
      | int j =>
        simp only [pr1, ofKey] at h
        split at h
        · next x xs e1 e2 =>
          cases e1; cases h
          rw [ih e2]; rfl
        · cases h
      | _ => simp [pr1, ofKey] at h
theorem ints_ws {A : AH} {N : Addr → Prop} {H : Hp} : ∀ {ps : List (Int × Int)} {ws : List (Key × V)}, RKs L.K A N H (ps.map fun p => ((Sum.inl p.1 : Key), D.int p.2)) ws → ws = ps.map fun p => ((Sum.inl p.1 : Key), V.int p.2)
  | [], ws, h => by
    have := congrArg List.length h.1
    cases ws with
    | nil => rfl
    | cons _ _ => simp at this
  | p :: ps, ws, h => by
    obtain ⟨q, r, rfl, e, rv, t⟩ := RKs.cons' h
    rw [List.map_cons, ← ints_ws t]
    obtain ⟨k, v⟩ := q
    have e : (Sum.inl p.1 : Key) = k := e
    have rv : v = V.int p.2 := rv_int.mp rv
    rw [← e, rv]
theorem sitems_ (hm : X.mg "sorted" = none) (he : DE L G n X e ie) (hg : Gl X "sorted" := by rfl) (hbase : attributeBase e "items" X.env (eval e X.env) = eval e X.env := by rfl) (hline : (apos.endLine == cpos.line) = true := by rfl)
    (hs : starEach [.Call (.Attribute e "items" apos) [] [] cpos] X.env = (false, eval (.Call (.Attribute e "items" apos) [] [] cpos) X.env) :: starEach [] X.env := by rfl) :
    DE L G n X (.Call (.Name "sorted" p) [.Call (.Attribute e "items" apos) [] [] cpos] [] pos) (.bi .sitems [ie]) := fun C W tk =>
  pe_imp (pe_sitems C.calm (he C W tk) hg hm hbase hline hs) fun σ H Q ⟨N, δ, A, Qd, Ed, rs, ra, h, hq, hx⟩ =>
    LE.use rs ra (show wpE (callN G n) G ie δ A (fun x A1 => dBi .sitems [x] A1 Qd) Ed from h) (fun x A1 v1 H1 rv1 ra1 ex1 rs1 q1 => by
      have k1 : Kt L A1 N H1 Qd Q := fun d A' v' H' r1 r2 e q => hq d A' v' H' r1 r2 (ex1.trans e) q
      rw [C.K]
      cases x with
      | ref a =>
        have q1 : (match A1 a with | some (.dk kvs) => (match alls pr1 (kvs.map fun kv => D.tup [ofKey kv.1, kv.2]) with | some ps => newL A1 ((sortP ps).map prD) Qd | none => False) | _ => False) := q1
        split at q1
        · next kvs e1 =>
          split at q1
          · next ps e2 =>
            have ek := of_ints_kv e2
            obtain ⟨ws, h1, h2⟩ := ra1 a _ e1
            rw [ek] at h2
            have ew : ws = ps.map fun p => ((Sum.inl p.1 : Key), V.int p.2) := ints_ws h2
            rw [ew] at h1
            refine ⟨a, ps, rv_ref.mp rv1, h1, fun H' ys b ext pr hb => ?_⟩
            have st : Ext A1 H1 A1 H' := fun b o h k => ⟨ext b o h, k⟩
            have ra2 : RA L A1 N H' := ⟨fun b w e => RO.stay (st.stay ra1) (fun u q => ext b u q) (ra1 b w e), fun b hb => let ⟨h1, w, h2⟩ := ra1.hid b hb; ⟨h1, w, ext b w h2⟩⟩
            have k2 : Kt L A1 N H' Qd Q := fun d A' v' H2 r1 r2 e q => k1 d A' v' H2 r1 r2 (st.trans e) q
            exact k2.lst ra2 (of_prs pr) q1 b hb
          · exact q1.elim
        · exact q1.elim
      | _ => exact (show False from q1).elim) hx
end
end DL

set_option Elab.async false
set_option linter.all false
set_option maxRecDepth 100000
/-! tuple(d): a dict's keys -/
namespace DL
open PySem PySem.Spec PyProof.Rows L2
section
variable {prog : Program} {w : World} {A : Around} {E : Value → Shared → Prop} {s : Shared} {r d : PySem.Addr} {n : Nat} {P : Nat → Value → Prop} {OK : Heap → Prop}
end
section
variable {X : Cx}
def rTupD : List V → Hp → VK → Prop := fun xs H Q => ∃ (a : Addr) (kvs : List (Key × V)), xs = [.ref a] ∧ Rd H a (.dK kvs) ∧ ∀ p, H p = none → Q (.ref p) (upd H p (.tup (kvs.map fun kv => kV kv.1)))
end
end DL

set_option Elab.async false
set_option linter.all false
set_option maxRecDepth 100000
/-! dict displays that are not empty -/
namespace DL
open PySem PySem.Spec PyProof.Rows L2
section
variable {L : Lk} {G : Gm} {n : Nat} {X : Cx} {k v : Expr} {ik iv : IE} {pos : Pos} {keys : List (Option Expr)} {values : List Expr} {ps : List (IE × IE)}
def flt2 {α : Type} (ps : List (α × α)) : List α := ps.flatMap fun p => [p.1, p.2]
theorem flt2_cons {α : Type} (p : α × α) (ps : List (α × α)) : flt2 (p :: ps) = p.1 :: p.2 :: flt2 ps := rfl
abbrev trsD (L : Lk) (W : WX) (c : CallT) (G : Gm) (ps : List (IE × IE)) : List (TE × TE) := ps.map fun p => (LE L W (wpE c G p.1), LE L W (wpE c G p.2))
/-- the pairs of a display -/
def DPr (L : Lk) (G : Gm) (n : Nat) (X : Cx) (pos : Pos) (keys : List (Option Expr)) (values : List Expr) (ps : List (IE × IE)) : Prop := Cn L G n X → ∀ W, Takes X W → PPs X pos keys values (trsD L W (callN G n) G ps)
theorem dpr_nil : DPr L G n X pos [] [] [] := fun C W tk => pps_nil
theorem dpr_cons (hk : DE L G n X k ik) (hv : DE L G n X v iv) (h : DPr L G n X pos keys values ps) : DPr L G n X pos (some k :: keys) (v :: values) ((ik, iv) :: ps) := fun C W tk => pps_cons (hk C W tk) (hv C W tk) (h C W tk)
theorem tPairs_of {W : WX} {c : CallT} : ∀ (ps : List (IE × IE)) {δ : DSt} {A : AH} {N : Addr → Prop} {H : Hp} {σ : L2.St} {Qd : List D → AH → Prop} {Q : List (V × V) → Hp → Prop}, RS L.K A N H δ σ → RA L A N H → wpEs c G (flt2 ps) δ A Qd (fun _ _ => False) →
    (∀ ds A' vs H', RVs L.K A' N H' ds (flt2 vs) → RA L A' N H' → Ext A H A' H' → Qd ds A' → Q vs H') → tPairs (trsD L W c G ps) σ H Q
  | [], δ, A, N, H, σ, Qd, Q, rs, ra, h, hq => hq [] A [] H .nil ra (Ext.refl _ _) h
  | p :: ps, δ, A, N, H, σ, Qd, Q, rs, ra, h, hq => by
    rw [flt2_cons] at h
    show LE L W (wpE c G p.1) σ H fun x H1 => LE L W (wpE c G p.2) σ H1 fun y H2 => tPairs (trsD L W c G ps) σ H2 fun ps H3 => Q ((x, y) :: ps) H3
    refine LE.use rs ra h (fun d1 A1 v1 H1 rv1 ra1 ex1 rs1 q1 => ?_) (fun _ _ _ _ _ z => z.elim)
    refine LE.use rs1 ra1 q1 (fun d2 A2 v2 H2 rv2 ra2 ex2 rs2 q2 => ?_) (fun _ _ _ _ _ z => z.elim)
    refine tPairs_of ps rs2 ra2 q2 fun ds A3 vs H3 rvs ra3 ex3 q3 => ?_
    refine hq _ A3 ((v1, v2) :: vs) H3 ?_ ra3 ((ex1.trans ex2).trans ex3) q3
    rw [flt2_cons]
    exact .cons (RV.stay (ex3.stay ra2) _ _ (RV.stay (ex2.stay ra1) _ _ rv1)) (.cons (RV.stay (ex3.stay ra2) _ _ rv2) rvs)
theorem keyD_rv2 {K : PySem.W.Frag} {A : AH} {N : Addr → Prop} {H : Hp} {d : D} {v : V} {k : Key} (h : keyD d = some k) (r : RV K A N H d v) : v = kV k := by
  cases d <;> simp only [keyD] at h <;> cases h
  · exact rv_int.mp r
  · exact rv_str.mp r
theorem kvs2_rv {A : AH} {N : Addr → Prop} {H : Hp} : ∀ {vs : List (V × V)} {ds : List D} {kvs : List (Key × D)}, kvs2 ds = some kvs → RVs L.K A N H ds (flt2 vs) → ∃ ws : List (Key × V), vs = ws.map (fun kv => (kV kv.1, kv.2)) ∧ RKs L.K A N H kvs ws
  | [], ds, kvs, h, r => by
    have := r.length
    have e : ds = [] := List.length_eq_zero_iff.mp this
    subst e
    simp only [kvs2] at h
    cases h
    exact ⟨[], rfl, .nil⟩
  | p :: vs, [], kvs, h, r => by rw [flt2_cons] at r; have := r.length; cases this
  | p :: vs, [d], kvs, h, r => by simp only [kvs2] at h; cases h
  | p :: vs, d1 :: d2 :: ds, kvs, h, r => by
    rw [flt2_cons] at r
    obtain ⟨v1, r1, e1, rv1, r⟩ := r.cons'
    obtain ⟨v2, r2, e2, rv2, r⟩ := r.cons'
    injection e1 with e1 e3
    rw [e2] at e3
    injection e3 with e3 e4
    subst e4
    simp only [kvs2] at h
    cases hk : keyD d1 with
    | none => rw [hk] at h; cases h
    | some k =>
      rw [hk] at h
      cases hr : kvs2 ds with
      | none => rw [hr] at h; cases h
      | some t =>
        rw [hr] at h
        cases h
        obtain ⟨ws, e5, rk⟩ := kvs2_rv hr r
        refine ⟨(k, v2) :: ws, ?_, .cons rfl rv2 rk⟩
        rw [List.map_cons, ← e5]
        congr 1
        have := keyD_rv2 hk rv1
        rw [← this]
        exact Prod.ext e1 e3
theorem de_dic (hp : DPr L G n X pos keys values ps) (hall : keys.all (·.isSome) = true) (hl : keys.length = values.length) (h0 : keys ≠ []) (h15 : Nat.ble keys.length 15 = true) : DE L G n X (.Dict keys values pos) (.dic (flt2 ps)) := fun C W tk =>
  pe_imp (pe_disp (hp C W tk) hall hl h0 (Nat.le_of_ble_eq_true h15)) fun σ H Q ⟨N, δ, A, Qd, Ed, rs, ra, h, hq, hx⟩ p np => by
    have h : wpEs (callN G n) G (flt2 ps) δ A (fun ds A1 => match kvs2 ds with | some kvs => kvs.length ≤ 15 ∧ newD A1 (mergeD [] kvs) Qd | none => False) (fun _ _ => False) := h
    refine tPairs_of ps (rs.stay (Stay.hide np)) (ra.hide np) h fun ds A' vs H' rvs ra2 ex2 q => ?_
    obtain ⟨hD, nA⟩ := ex2 p _ upd_same (ra.non np)
    refine ⟨hD, ?_⟩
    cases e : kvs2 ds with
    | none => rw [e] at q; exact q.elim
    | some kvs =>
      rw [e] at q
      obtain ⟨ws, e1, rk⟩ := kvs2_rv e rvs
      refine ⟨ws, e1, by rw [← rk.len]; exact q.1, ?_⟩
      have no1 : ∀ xs, HO.dK [] ≠ .tup xs := by intro _ z; cases z
      have no2 : ∀ ob y, HO.dK [] ≠ .frz ob y := by intro _ _ z; cases z
      have st := Stay.quiet (A := A') (u := .dK (mergeK [] ws)) (show hide N p p from .inr rfl) hD no1 no2
      have ra3 := ra2.quiet (u := .dK (mergeK [] ws)) (.inr rfl) hD no1 no2
      have rk3 : RKs L.K A' (hide N p) (upd H' p (.dK (mergeK [] ws))) (mergeD [] kvs) (mergeK [] ws) := (RKs.merge rk .nil).stay st
      have nN : ¬ N p := fun z => by obtain ⟨_, w, h⟩ := ra.hid _ z; rw [np] at h; cases h
      refine hq (.ref p) (up A' p (.dk (mergeD [] kvs))) (.ref p) _ (rv_ref.mpr rfl) ⟨fun c w q2 => ?_, fun c hc => ?_⟩ ?_ (q.2 p nA)
      · by_cases z : c = p
        · subst z; rw [up_same] at q2; cases q2
          exact ⟨_, upd_same, rk3.stay .show⟩
        · rw [up_ne z] at q2
          exact RO.stay .show (fun _ q => q) (ra3 c w q2)
      · have z : c ≠ p := fun z => by subst z; exact nN hc
        rw [up_ne z]; exact ra3.hid c (.inl hc)
      · intro b o hb nb
        have z : b ≠ p := ne_of_none hb np
        obtain ⟨h1, h2⟩ := ex2 b o (by rw [upd_ne z]; exact hb) nb
        rw [upd_ne z, up_ne z]
        exact ⟨h1, h2⟩
end
end DL

set_option Elab.async false
set_option linter.all false
set_option maxRecDepth 100000
/-! sorted of triples of ints -/
namespace DL
open PySem PySem.Spec PyProof.Rows L2
abbrev I3 := Int × Int × Int
theorem leT_iff {p q : I3} : leT p q = true ↔ p.1 < q.1 ∨ (p.1 = q.1 ∧ (p.2.1 < q.2.1 ∨ (p.2.1 = q.2.1 ∧ p.2.2 ≤ q.2.2))) := by unfold leT; simp
theorem sortT_perm (l : List I3) : (sortT l).Perm l := List.mergeSort_perm l _
theorem sortT_pw (l : List I3) : (sortT l).Pairwise fun p q => leT p q = true :=
  List.pairwise_mergeSort (le := leT) (fun a b c h1 h2 => by rw [leT_iff] at *; omega) (fun a b => by rw [Bool.or_eq_true, leT_iff, leT_iff]; omega) l
theorem sortT_eq {l m : List I3} (p : m.Perm l) (h : m.Pairwise fun p q => leT p q = true) : m = sortT l :=
  List.Perm.eq_of_pairwise (le := fun p q => leT p q = true) (fun a b _ _ h1 h2 => by
    rw [leT_iff] at *
    exact Prod.ext (by omega) (Prod.ext (by omega) (by omega))) h (sortT_pw l) (p.trans (sortT_perm l).symm)
def lex3 (p q : I3) : Bool := if p.1 = q.1 then (if p.2.1 = q.2.1 then decide (p.2.2 < q.2.2) else decide (p.2.1 < q.2.1)) else decide (p.1 < q.1)
theorem lex3_iff {p q : I3} : lex3 p q = true ↔ p.1 < q.1 ∨ (p.1 = q.1 ∧ (p.2.1 < q.2.1 ∨ (p.2.1 = q.2.1 ∧ p.2.2 < q.2.2))) := by
  unfold lex3
  by_cases e : p.1 = q.1
  · rw [if_pos e]
    by_cases e2 : p.2.1 = q.2.1
    · rw [if_pos e2, decide_eq_true_eq]; omega
    · rw [if_neg e2, decide_eq_true_eq]; omega
  · rw [if_neg e, decide_eq_true_eq]; omega
theorem lex3_no {p q : I3} : lex3 p q = false ↔ ¬ (p.1 < q.1 ∨ (p.1 = q.1 ∧ (p.2.1 < q.2.1 ∨ (p.2.1 = q.2.1 ∧ p.2.2 < q.2.2)))) := by
  rw [← lex3_iff]
  cases lex3 p q <;> simp
theorem swo_lex3 (k : Value → I3) : SrtO.Swo fun v u => lex3 (k v) (k u) := by
  refine ⟨fun x y h => ?_, fun x y z h1 h2 => ?_⟩
  · have a := lex3_iff.mp h
    refine lex3_no.mpr ?_
    omega
  · have a := lex3_no.mp h1
    have b := lex3_no.mp h2
    refine lex3_no.mpr ?_
    omega
def IsTri (h : Heap) (v : Value) (p : I3) : Prop := ∃ a o t u w n, v = .ref a ∧ h.get? a = some o ∧ o.cls = .type "tuple" ∧ o.data = .seq #[.int p.1 t, .int p.2.1 u, .int p.2.2 w] n
theorem IsTri.keeps {h h' : Heap} {v : Value} {p : I3} (x : IsTri h v p) (k : ∀ b o, h.get? b = some o → o.cls = .type "tuple" → h'.get? b = some o) : IsTri h' v p := by
  obtain ⟨a, o, t, u, w, n, e, ho, hc, hd⟩ := x
  exact ⟨a, o, t, u, w, n, e, k a o ho hc, hc, hd⟩
section
variable {prog : Program} {w : World} {A : Around} {E : Value → Shared → Prop} {s : Shared}
theorem tri_cmp {vs : List Value} {k : Value → I3} (hp : ∀ v ∈ vs, IsTri s.heap v (k v)) : SrtO.Cmp prog w A s (tuples' true) (fun p => p.1 ∈ vs) (SrtO.lt2 fun v u => lex3 (k v) (k u)) := by
  intro p q hm hm'
  have h1 := hp _ hm
  have h2 := hp _ hm'
  show wpAny (model prog w) A (keyLt' (tuples' true) p.1 q.1) (fun r s' => s' = s ∧ r = lex3 (k p.1) (k q.1)) (fun _ _ => False) s
  unfold lex3
  generalize k p.1 = x at h1 ⊢
  generalize k q.1 = x' at h2 ⊢
  obtain ⟨x, y, z⟩ := x
  obtain ⟨x', y', z'⟩ := x'
  dsimp only
  obtain ⟨a, o, t, u, r, n, e, ho, hc, hd⟩ := h1
  obtain ⟨a', o', t', u', r', n', e', ho', hc', hd'⟩ := h2
  rw [e, e']
  refine PySem.W.kat_lt ho hd ho' hd' ?_
  show PySem.W.KatLex prog w A true (decide (3 < 3)) _ [(.int x t, .int x' t'), (.int y u, .int y' u'), (.int z r, .int z' r')] 0 s
  refine PySem.W.kat_cons (SeqAt.EqAt.int_int x t x' t' prog w _ _ ?_)
  refine PySem.W.kat_go (fun e1 => ?_) (fun e1 => ?_)
  · have ex : x = x' := by simpa using e1
    refine PySem.W.kat_yes (PySem.W.kat_cons (SeqAt.EqAt.int_int y u y' u' prog w _ _ ?_))
    refine PySem.W.kat_go (fun e2 => ?_) (fun e2 => ?_)
    · have ey : y = y' := by simpa using e2
      refine PySem.W.kat_yes (PySem.W.kat_cons (SeqAt.EqAt.int_int z r z' r' prog w _ _ ?_))
      refine PySem.W.kat_go (fun e3 => ?_) (fun e3 => ?_)
      · have ez : z = z' := by simpa using e3
        have e4 : (if x = x' then (if y = y' then decide (z < z') else decide (y < y')) else decide (x < x')) = false := by
          rw [if_pos ex, if_pos ey, ez]
          exact decide_eq_false (Int.lt_irrefl _)
        exact PySem.W.kat_yes (PySem.W.kat_nil ⟨rfl, e4.symm⟩)
      · have e4 : (if x = x' then (if y = y' then decide (z < z') else decide (y < y')) else decide (x < x')) = decide (z < z') := by rw [if_pos ex, if_pos ey]
        refine PySem.W.kat_no (PySem.W.kat_one _ _ (PyProof.Rows.lt_int ?_))
        exact (show s = s ∧ decide (z < z') = (if x = x' then (if y = y' then decide (z < z') else decide (y < y')) else decide (x < x')) from ⟨rfl, e4.symm⟩)
    · have ey : ¬ y = y' := by simpa using e2
      have e4 : (if x = x' then (if y = y' then decide (z < z') else decide (y < y')) else decide (x < x')) = decide (y < y') := by rw [if_pos ex, if_neg ey]
      refine PySem.W.kat_no (PySem.W.kat_one _ _ (PyProof.Rows.lt_int ?_))
      exact (show s = s ∧ decide (y < y') = (if x = x' then (if y = y' then decide (z < z') else decide (y < y')) else decide (x < x')) from ⟨rfl, e4.symm⟩)
  · have ex : ¬ x = x' := by simpa using e1
    have e4 : (if x = x' then (if y = y' then decide (z < z') else decide (y < y')) else decide (x < x')) = decide (x < x') := if_neg ex
    exact PySem.W.kat_no (oneLt_int ⟨rfl, e4.symm⟩)
theorem tri_firsts {h : Heap} : ∀ {vs : List Value}, (∀ v ∈ vs, ∃ p, IsTri h v p) → ∃ fs : List Value, PySem.W.KatTups h vs fs ∧ fs.length = vs.length ∧ ∀ f ∈ fs, ∃ x t, f = Value.int x t
  | [], _ => ⟨[], PySem.W.KatTups.nil, rfl, fun _ hm => by simp at hm⟩
  | v :: vs, hp => by
    obtain ⟨fs, h1, h2, h3⟩ := tri_firsts (vs := vs) fun v' hm => hp v' (List.mem_cons_of_mem _ hm)
    obtain ⟨p, a, o, t, u, w, n, e, ho, hc, hd⟩ := hp v List.mem_cons_self
    subst e
    refine ⟨.int p.1 t :: fs, PySem.W.KatTups.cons ho hc hd rfl h1, by rw [List.length_cons, List.length_cons, h2], fun f hm => ?_⟩
    rcases List.mem_cons.mp hm with rfl | hm
    · exact ⟨_, t, rfl⟩
    · exact h3 f hm
theorem tris_sortableO {a : Addr} {vs : List Value} {k : Value → I3} (h0 : 0 < vs.length) (hp : ∀ v ∈ vs, IsTri s.heap v (k v)) (ha : ∀ o, s.heap.get? a = some o → o.cls ≠ .type "tuple") : SrtO.SortableO prog w A s a vs fun v u => lex3 (k v) (k u) := by
  intro h' keep
  have hp' : ∀ v ∈ vs, IsTri h' v (k v) := fun v hm => (hp v hm).keeps fun b o e c => keep b o (fun z => by subst z; exact ha o e c) e
  obtain ⟨fs, h1, h2, h3⟩ := tri_firsts fun v hm => ⟨_, hp' v hm⟩
  refine ⟨tuples' true, fun Q E hq => ?_, tri_cmp hp'⟩
  refine PySem.W.kat_kind (T := .type "int") h1 (by omega) (fun f hm => ?_) (by rfl) ?_
  · obtain ⟨x, t, rfl⟩ := h3 f hm
    exact PySem.W.Looks.now
  · have e : (Value.type "int" != Value.type "tuple") = true := by first | decide +kernel | rfl | decide
    rw [e]
    exact hq
end
/-- a triple of ints as a value -/
def kT (K : PySem.W.Frag) (H : Hp) (v : V) (p : I3) : Prop := ∃ t, v = V.ref t ∧ SqT K H t [.int p.1, .int p.2.1, .int p.2.2]
def rSrt3 (K : PySem.W.Frag) : List V → Hp → VK → Prop := fun vs H Q => ∃ (a : Addr) (xs : List V), vs = [V.ref a] ∧ (SqL K H a xs ∨ SqT K H a xs) ∧
  ∃ ps : List I3, Paired (kT K H) xs ps ∧ ∀ ys p, Paired (kT K H) ys (sortT ps) → H p = none → Q (.ref p) (upd H p (.lst ys))
/-- the triple that an object holds -/
def kH3 (g : Heap) (u : Value) : I3 := match u with
  | .ref a => match g.get? a with
    | some o => match o.data with
      | .seq z _ => match z.toList with
        | [.int x _, .int y _, .int w _] => (x, y, w)
        | _ => (0, 0, 0)
      | _ => (0, 0, 0)
    | none => (0, 0, 0)
  | _ => (0, 0, 0)
theorem kH3_of {g : Heap} {u : Value} {p : I3} (h : IsTri g u p) : kH3 g u = p := by
  obtain ⟨a, o, t1, t2, t3, n, rfl, h1, h2, h3⟩ := h
  simp only [kH3, h1, h3]
theorem Vals.three {x y z : Int} {us : List Value} (h : Vals [V.int x, .int y, .int z] us) : ∃ t u r, us = [.int x t, .int y u, .int z r] := by
  cases h with
  | cons h1 h => cases h with
    | cons h2 h => cases h with
      | cons h3 h =>
        cases h
        obtain ⟨t, rfl⟩ := h1
        obtain ⟨u, rfl⟩ := h2
        obtain ⟨r, rfl⟩ := h3
        exact ⟨t, u, r, rfl⟩
theorem cr_srt3 {X : Cx} : CallR X (.builtin "sorted") (rSrt3 X.K) := by
  intro pins s σ H vs us Q I r h
  obtain ⟨a, xs, rfl, hs, ps, hx, q⟩ := h
  obtain ⟨its, rv, hz, col⟩ : ∃ its : List Value, Vals xs its ∧ its.length ≤ sizeLine ∧ ∀ (A : Around) (E : Value → Shared → Prop) (R : List Value → Shared → Prop), R its { s with heap := colHeap s.heap its } → wpAny (model X.prog X.w) A (collect (.ref a)) R E s := by
    rcases hs with hs | hs
    · obtain ⟨its, rv, hl, hz⟩ := I.list hs
      have hz' : its.length ≤ sizeLine := by rw [← rv.length]; exact hz
      exact ⟨its, rv, hz', fun A E R q => collect_list hl.isList q hz'⟩
    · obtain ⟨its, rv, hl, hz⟩ := I.tuple hs
      have hz' : its.length ≤ sizeLine := by rw [← rv.length]; exact hz
      exact ⟨its, rv, hz', fun A E R q => collectT hl hz' q⟩
  rw [Vals.ref1 r]
  have sz : xs.length ≤ sizeLine := by rw [rv.length]; exact hz
  -- each value is a triple of the heap
  have all : ∀ {xs : List V} {us : List Value} {ps : List I3}, Vals xs us → Paired (kT X.K H) xs ps → us.map (kH3 s.heap) = ps ∧ ∀ u ∈ us, IsTri s.heap u (kH3 s.heap u) ∧ kT X.K H (backV u) (kH3 s.heap u) ∧ ∃ b, u = Value.ref b := by
    intro xs us ps rv hx
    induction hx generalizing us with
    | nil => cases rv; exact ⟨rfl, fun u h => by cases h⟩
    | cons r t ih =>
      cases rv with
      | cons r1 r2 =>
        obtain ⟨e1, e2⟩ := ih r2
        obtain ⟨b, rfl, hb⟩ := r
        cases r1
        obtain ⟨its2, rr, ⟨o, ho, hc, n, hd⟩, _⟩ := I.tuple hb
        obtain ⟨t1, t2, t3, rfl⟩ := Vals.three rr
        have ip : IsTri s.heap (.ref b) _ := ⟨b, o, t1, t2, t3, n, rfl, ho, hc, hd⟩
        have ek := kH3_of ip
        refine ⟨by rw [List.map_cons, e1, ek], fun u hu => ?_⟩
        rcases List.mem_cons.mp hu with e | hu
        · subst e; rw [ek]; exact ⟨ip, ⟨b, rfl, hb⟩, b, rfl⟩
        · exact e2 u hu
  obtain ⟨e1, e2⟩ := all rv hx
  refine sortedC (swo_lex3 (kH3 s.heap)) hz col (fun h2 g b hb old => ?_) fun out h1 h2 => ?_
  · refine tris_sortableO (s := { s with heap := g }) (by omega) (fun v hm => (e2 v hm).1.keeps fun b o e _ => (old b o e).2) fun o e => ?_
    have e' : some o = some (seqObj "list" its.toArray 0) := e.symm.trans hb
    cases e'
    intro c
    exact absurd (Value.type.inj c) (by decide)
  · have h3 : ∀ u ∈ out, u ∈ its := fun u hu => h2.perm.mem_iff.mp hu
    obtain ⟨ep, he⟩ := sortedAll_at s.heap its out.toArray
    have es : out.map (kH3 s.heap) = sortT ps := by
      refine sortT_eq (by rw [← e1]; exact h2.perm.map _) ?_
      refine List.pairwise_map.mpr (h1.imp fun {x y} h => ?_)
      have h := lex3_no.mp h
      rw [leT_iff]
      omega
    have pr : ∀ us : List Value, (∀ u ∈ us, u ∈ its) → Paired (kT X.K H) (us.map backV) (us.map (kH3 s.heap)) := by
      intro us
      induction us with
      | nil => intro _; exact .nil
      | cons u r ih => intro h; exact .cons (e2 u (h u List.mem_cons_self)).2.1 (ih fun v hv => h v (List.mem_cons_of_mem _ hv))
    refine ⟨.ref (s.heap.objs.size + 1), _, I.laid (t' := s.toks) (o := .lst (out.map backV)) (fun _ _ => sortedAll_old) (Nat.le_succ _) ⟨?_, out, ep, vals_back fun u hu => (e2 u (h3 u hu)).2.2, he⟩, rfl, q _ _ (by rw [← es]; exact pr out h3) (I.hok.fresh (Nat.le_succ _))⟩
    rw [List.length_map, h2.perm.length_eq]
    exact hz
theorem alls_tri : ∀ {xs : List D} {ps : List I3}, alls tri1 xs = some ps → xs = ps.map triD
  | [], ps, h => by simp only [alls] at h; cases h; rfl
  | d :: ds, ps, h => by
    simp only [alls] at h
    cases h1 : tri1 d with
    | none => rw [h1] at h; cases h
    | some p =>
      rw [h1] at h
      cases h2 : alls tri1 ds with
      | none => rw [h2] at h; cases h
      | some qs =>
        rw [h2] at h
        cases h
        rw [alls_tri h2, List.map_cons]
        congr 1
        unfold tri1 at h1
        split at h1
        · cases h1; rfl
        · cases h1
theorem tris_of {K : PySem.W.Frag} {A : AH} {N : Addr → Prop} {H : Hp} : ∀ {ps : List I3} {ws : List V}, RVs K A N H (ps.map triD) ws → Paired (kT K H) ws ps
  | [], _, r => by rw [r.nil']; exact .nil
  | p :: ps, _, r => by
    obtain ⟨v, vr, rfl, r1, r2⟩ := RVs.cons' r
    obtain ⟨a, vs, rfl, h1, h2⟩ := rv_tup.mp r1
    obtain ⟨v1, q1, rfl, h3, h2⟩ := h2.cons'
    obtain ⟨v2, q2, rfl, h4, h2⟩ := h2.cons'
    obtain ⟨v3, q3, rfl, h5, h2⟩ := h2.cons'
    rw [rv_int.mp h3, rv_int.mp h4, rv_int.mp h5, h2.nil'] at h1
    exact .cons ⟨a, rfl, h1⟩ (tris_of r2)
theorem of_tris {K : PySem.W.Frag} {A : AH} {N : Addr → Prop} {H : Hp} : ∀ {ps : List I3} {ws : List V}, Paired (kT K H) ws ps → RVs K A N H (ps.map triD) ws
  | _, _, .nil => .nil
  | _, _, .cons ⟨a, e, h⟩ t => .cons (rv_tup.mpr ⟨a, _, e, h, .cons (rv_int.mpr rfl) (.cons (rv_int.mpr rfl) (.cons (rv_int.mpr rfl) .nil))⟩) (of_tris t)
theorem db_sort3 {L : Lk} : DBi L (fun vs H Q => rSrt3 L.K vs H Q) (dBi .sort3) := by
  intro ds vs A N H Q Qd rv ra h k
  match ds, rv, h with
  | [d], rv, h =>
    obtain ⟨v, rfl, r⟩ := rvs1 rv
    have h : (match seqD A d with | some xs => (match alls tri1 xs with | some ps => newL A ((sortT ps).map triD) Qd | none => False) | none => False) := h
    split at h
    · next xs e =>
      obtain ⟨p, ws, rfl, h1, h2⟩ := seqD_rv e ra r
      split at h
      · next ps e2 =>
        rw [alls_tri e2] at h2
        exact ⟨p, ws, rfl, h1, ps, tris_of h2, fun ys q hp np => k.lst ra (of_tris hp) h q np⟩
      · exact h.elim
    · exact h.elim
  | [], _, h => exact (show False from h).elim
  | _ :: _ :: _, _, h => exact (show False from h).elim
theorem b_sort3 {L : Lk} {X : Cx} : BiR L X "sorted" (.builtin "sorted") .sort3 := ⟨.inl ⟨_, rfl, _, fun _ => cr_srt3, fun h => by rw [h]; exact db_sort3⟩, by decide +kernel, by decide, by decide⟩
end DL

set_option Elab.async false
set_option linter.all false
set_option maxRecDepth 100000
set_option maxHeartbeats 1000000
/-! two places stored at once -/
namespace DL
open PySem PySem.Spec PyProof.Rows L2
section
variable {L : Lk} {G : Gm} {n : Nat} {X : Cx} {x : Str} {pos p : Pos} {e o i o2 i2 : Expr} {ie io ii io2 ii2 : IE}
end
end DL

set_option Elab.async false
set_option linter.all false
set_option maxRecDepth 100000
set_option maxHeartbeats 1000000
/-! texts: split, join, strip, int of a text, signs, f-texts -/
namespace DL
open PySem PySem.Spec PyProof.Rows L2
section
variable {L : Lk} {G : Gm} {n : Nat} {X : Cx} {x : Str} {pos p apos : Pos} {e o a tg : Expr} {ie io ia : IE}
def rSpl : V → List V → Hp → VK → Prop := fun x xs H Q => ∃ a b, x = .str a ∧ xs = [.str b] ∧ (b.length == 0) = false ∧ a.length + 2 ≤ sizeLine ∧ rNewStrs (Txt.split a b) H Q
def rStrp : V → List V → Hp → VK → Prop := fun x xs H Q => ∃ a b, x = .str a ∧ xs = [.str b] ∧ a.length ≤ sizeLine ∧ Q (.str (Txt.stripChars a b)) H
def rJoi (K : PySem.W.Frag) : V → List V → Hp → VK → Prop := fun x xs H Q => ∃ a p, ∃ ys : List Str, x = .str a ∧ xs = [.ref p] ∧ (SqL K H p (ys.map V.str) ∨ SqT K H p (ys.map V.str)) ∧ (ys.map (·.length)).sum + ys.length * a.length ≤ 16777216 ∧ Q (.str (Txt.join a ys)) H
/-- int of a text -/
def rIntS : List V → Hp → VK → Prop := fun xs H Q => ∃ a n, xs = [.str a] ∧ PySem.intText? a = some n ∧ a.length ≤ 640 ∧ Q (.int n) H
/-! f-texts of names and signs -/
inductive DFs (L : Lk) (G : Gm) (n : Nat) (X : Cx) : List Expr → List IE → Prop where
  | nil : DFs L G n X [] []
  | fmt {e : Expr} {i : Nat} {pos : Pos} {es : List Expr} {ies : List IE} (h : DE L G n X e (.var i)) (r : DFs L G n X es ies) : DFs L G n X (.FormattedValue e (-1) none pos :: es) (.var i :: ies)
  | sgn {z : Str} {j : Nat} {pos : Pos} {es : List Expr} {ies : List IE} (r : DFs L G n X es ies) : DFs L G n X (.Constant (.str z) j pos :: es) (.cst (.str z) :: ies)
def tsF (L : Lk) (W : WX) (c : CallT) (G : Gm) : List IE → List TE
  | [] => []
  | .cst (.str z) :: r => tC (.str z) :: tsF L W c G r
  | e :: r => tFmt (LE L W (wpE c G e)) :: tsF L W c G r
/-! a text none or once -/
def rSmul : R2 := fun x y H Q => ∃ z k, x = .str z ∧ y = .int k ∧ ((k = 0 ∧ Q (.str Str.empty) H) ∨ (k = 1 ∧ Q (.str z) H))
/-! one sign in a text -/
def rSgnIn : R2 := fun x y H Q => ∃ (c : Nat) (z : Str), x = .str ⟨#[c]⟩ ∧ y = .str z ∧ Q (.bl (decide (c ∈ z.cps.toList))) H
end
end DL

set_option Elab.async false
set_option linter.all false
set_option maxRecDepth 100000
set_option maxHeartbeats 1000000
/-! zip of a list with a tuple -/
namespace DL
open PySem PySem.Spec PyProof.Rows L2
open PySem.Sem (wp)
section
variable {prog : Program} {w : World} {A : Around} {E : Value → Shared → Prop} {s : Shared}
end
abbrev zipMH1 (h : Heap) (l1 : Addr) : Heap := h.push { cls := .type "list_iterator", data := .fields #[.ref l1, .int 0 0] }
abbrev zipMH2 (h : Heap) (l1 l2 : Addr) : Heap := (zipMH1 h l1).push { cls := .type "tuple_iterator", data := .fields #[.ref l2, .int 0 0] }
abbrev zipMH3 (h : Heap) (l1 l2 : Addr) : Heap := (zipMH2 h l1 l2).push { cls := .type "tuple", data := .seq #[.ref h.objs.size, .ref (zipMH1 h l1).objs.size] }
abbrev zipMH4 (h : Heap) (l1 l2 : Addr) : Heap := (zipMH3 h l1 l2).push { cls := .type "tuple", data := .seq #[.none, .none] }
abbrev zipMH5 (h : Heap) (l1 l2 : Addr) : Heap := (zipMH4 h l1 l2).push { cls := .type "zip", data := .fields #[.none, .bool false, .bool false, .ref (zipMH2 h l1 l2).objs.size, .ref (zipMH3 h l1 l2).objs.size] }
section
variable {prog : Program} {w : World} {A : Around} {E : Value → Shared → Prop} {s : Shared}
end
def ItzM (K : PySem.W.Frag) (a b : Addr) : It :=
  ⟨fun i H => ∃ (xs ys : List V) (x y : V), SqL K H a xs ∧ SqT K H b ys ∧ xs[i]? = some x ∧ ys[i]? = some y,
    fun i H v H' => ∃ T x y, v = .ref T ∧ H T = none ∧ H' = upd H T (.tup [x, y]) ∧ (∀ xs, SqL K H a xs → xs[i]? = some x) ∧ ∀ ys, SqT K H b ys → ys[i]? = some y,
    fun i H => ∃ xs ys : List V, SqL K H a xs ∧ SqT K H b ys ∧ (xs.length ≤ i ∨ ys.length ≤ i)⟩
def iZipM (K : PySem.W.Frag) (ta : TA) : TI := fun σ H R => ta σ H fun vs H1 => ∃ a b xs ys, vs = [.ref a, .ref b] ∧ SqL K H1 a xs ∧ SqT K H1 b ys ∧ R (ItzM K a b) H1
section
variable {L : Lk} {G : Gm} {n : Nat} {X : Cx} {A0 : AH} {N0 : Addr → Prop} {H0 : Hp} {a b : Expr} {ia ib : IE} {p pos : Pos}
end
end DL

set_option Elab.async false
set_option linter.all false
set_option maxRecDepth 100000
set_option maxHeartbeats 2000000
/-! a comprehension that an exception may leave -/
namespace DL
open PySem PySem.Spec PyProof.Rows L2

/-! ### noted by this frame, in flight elsewhere -/
section
variable {M : Model} {A : Around} {E : Value → Shared → Prop} {s : Shared} {Z : Obj → Prop} {B : Heap} {env : Env} {outer l : List Env} {L L' a C : Addr}
end

/-! ### a comprehension, its end by exception told with the block's frame -/
def compPostX (M : Model) (A : Around) (E : Value → Shared → Prop) (Q : Value → Shared → Prop) (acc : Value) (cenv : Env) (r : Result) (s' : Shared) : Prop :=
  match r with
  | .ok _ => ∃ m, s'.heap.Ns cenv.locals m ∧ ∀ h', Heap.SameBut cenv.locals s'.heap h' → Q acc { s' with heap := h' }
  | .error x => ∃ m, s'.heap.Ns cenv.locals m ∧ ∀ h', Heap.SameBut cenv.locals s'.heap h' → wpAny M A (PySem.passOn "comprehension.variables-let-go" x cenv : Sem Value) (fun _ _ => False) E { s' with heap := h' }
section
variable {M : Model} {A : Around} {E : Value → Shared → Prop} {s : Shared} {env : Env}
end

/-- the block's context, an exception on its way out -/
abbrev xeB (X : Cx) (Q : Value → Shared → Prop) (acc : Value) (ce : Env) : Value → Shared → Prop := notedBy (model X.prog X.w) X.A ce fun e s' => compPostX (model X.prog X.w) X.A X.xe Q acc ce (.error e) s'
abbrev blkX (X : Cx) (s : Shared) (H : Hp) (scope : Scope) (ce : Env) (fp : List Addr) (xe : Value → Shared → Prop) : Cx := { X with s_0 := s, H_0 := H, env := ce, outer := X.stack, ex := fp, fn := fun x => scope.names.lookup x == some .cell, pn := [], xe := xe }
section
variable {X : Cx}
end
section
variable {L : Lk} {A : AH} {N : Addr → Prop} {H : Hp} {b : Addr}
end
section
variable {L : Lk} {G : Gm} {n : Nat} {X : Cx} {tg iter elt : Expr} {ifs : List Expr} {k : SrcK} {ies : List IE} {it : IT} {ie : IE} {t : Tg}
theorem Cn.blkX (C : Cn L G n X) (s : Shared) (H : Hp) (scope : Scope) (env : Env) (fp : List Addr) (xe : Value → Shared → Prop) : Cn L G n (DL.blkX X s H scope env fp xe) := ⟨C.K, C.calm, C.room, C.nd, C.fns, C.cls⟩
variable {scope : Scope} {pos : Pos}
end
end DL

set_option Elab.async false
set_option linter.all false
set_option maxRecDepth 100000
set_option maxHeartbeats 1000000
/-! except .. as e: the name of a caught exception handed to a small def -/
namespace DL
open PySem PySem.Spec PyProof.Rows L2
/-- what of the text isinstance asks of an exception's class -/
structure ExI (K : PySem.W.Frag) (C : Addr) : Prop where
  cl : (PySem.W.clsIn K C).isSome = true
  ga : PySem.W.findIn K (.ref C) "__getattribute__" = some (some (.builtin "BaseException.__getattribute__"))
  gt : (PySem.W.findIn K (.ref C) "__getattr__").isSome = true
  sb : PySem.W.subIn K (.ref C) (.type "BaseException") = some true
  ca : PySem.W.findIn K (.ref C) "__class__" = some (some (.builtin "object.__class__"))
  gs : PySem.W.specialIn K (.builtin "object.__class__") "__get__" = some (some (.builtin "getset_descriptor.__get__"))
  tk : PySem.W.takesIn K (.builtin "object.__class__") = some true
  mo : PySem.W.mroIn K C (.type "object") = some true
/-- the class that is asked for, as a value -/
def clV : V → Value
  | .ref C => .ref C
  | .ty n => .type n
  | _ => .none
def clOk : V → Prop
  | .ref _ => True
  | .ty _ => True
  | _ => False
section
variable {X : Cx} {p : Addr × Obj} {C : Addr}
def rIsX (a C : Addr) (K : PySem.W.Frag) : List V → Hp → VK → Prop := fun xs H Q => ∃ c b, xs = [.ref a, c] ∧ clOk c ∧ PySem.W.kitOne K (.ref C) (clV c) = some b ∧ Q (.bl b) H
end
/-- a small def that is handed a caught exception: what comes of it hangs on the exception's class alone -/
structure WarmH (L : Lk) (mg : Str → Option Value) (g : Str) (xs : List (Nat × D)) : Prop where
  ex : ∃ f, mg g = some (.ref f) ∧ PySem.W.keepIn L.K (.ref f) = true ∧ ∀ (X : Cx) (pins : List (Addr × Obj)) (σ : L2.St) (H : Hp) (s : Shared) (p : Addr × Obj) (i : Nat) (dv : D) (N : Addr → Prop) (A : AH) (Q : VK), X.K = L.K → X.mg = mg → X.A.depth < recursionLimit → p ∈ X.pn → Zc (L.XV i) none p.2 → (∃ vs, p.2.data = .fields vs) →
    xs.lookup i = some dv → Inv X pins σ H s → RA L A N H → (∀ v H', RV L.K A N H' dv v → RA L A N H' → Ext A H A H' → Q v H') → wpAny (model X.prog X.w) X.A (call (.ref f) [.ref p.1]) (EP X pins σ Q) X.xe s
section
variable {L : Lk} {G : Gm} {n : Nat} {X : Cx} {x y g : Str} {xs : List (Nat × D)}
/-- what the call of it in the suite comes to -/
def tWarm (L : Lk) (xs : List (Nat × D)) (j : Nat) (a : Addr) (cls : Value) (d : Option Addr) : TE := fun σ H Q => ∃ i dv N A, xs.lookup i = some dv ∧ cls = L.XV i ∧ d = none ∧ (j < σ.length → σ[j]? = some (some (V.ref a))) ∧ RA L A N H ∧ ∀ v H', RV L.K A N H' dv v → RA L A N H' → Ext A H A H' → Q v H'
variable {c : Value} {body : List Stmt} {np q1 q2 q3 q4 q5 pos pos' : Pos} {iss : List IS} {j : Nat}
end
end DL

set_option Elab.async false
set_option linter.all false
set_option maxRecDepth 100000
set_option maxHeartbeats 1000000
/-! dicts whose keys are tuples -/
namespace DL
open PySem PySem.Spec PyProof.Rows L2
/-- a tuple newly made: it is told of by the heap itself -/
def LKy (L : Lk) (W : WX) (w : WE) : TE := fun σ H Q => ∃ (N : Addr → Prop), ∃ δ A Qd Ed, RS L.K A N H δ σ ∧ RA L A N H ∧ w δ A Qd Ed ∧
  (∀ ds A' b vs H', H' b = some (.tup vs) → RVs L.K A' N H' ds vs → RA L A' N H' → Ext A H A' H' → Qd (.tup ds) A' → Q (.ref b) H') ∧ ∀ x A' H', RA L A' N H' → Ext A H A' H' → Ed x A' → W (L.XV x) none σ H'
def DKy (L : Lk) (G : Gm) (n : Nat) (X : Cx) (e : Expr) (i : IE) : Prop := Cn L G n X → ∀ W, Takes X W → PE X e (LKy L W (wpE (callN G n) G i))
section
variable {L : Lk} {G : Gm} {n : Nat} {X : Cx} {a b c e o f k : Expr} {es : List Expr} {ia ib ic ie io ik : IE} {ies : List IE} {pos p p2 : Pos}
theorem LKy.use {W : WX} {w : WE} {N : Addr → Prop} {δ : DSt} {A : AH} {Ed : XQ} {σ : L2.St} {H : Hp} {Qd : QE} {Q : VK} (rs : RS L.K A N H δ σ) (ra : RA L A N H) (h : w δ A Qd Ed)
    (hq : ∀ ds A' b vs H', H' b = some (.tup vs) → RVs L.K A' N H' ds vs → RA L A' N H' → Ext A H A' H' → RS L.K A' N H' δ σ → Qd (.tup ds) A' → Q (.ref b) H')
    (hx : ∀ x A' H', RA L A' N H' → Ext A H A' H' → Ed x A' → W (L.XV x) none σ H') : LKy L W w σ H Q :=
  ⟨N, δ, A, Qd, Ed, rs, ra, h, fun ds A' b vs H' hb r1 r2 x q => hq ds A' b vs H' hb r1 r2 x (rs.stay (x.stay ra)) q, hx⟩
theorem dky_tup {j : Nat} (h : DA L G n X es ies) : DKy L G n X (.Tuple es j pos) (.tup ies) := fun C W tk =>
  pe_imp (pe_tup (h C W tk)) fun σ H Q ⟨N, δ, A, Qd, Ed, rs, ra, h, hq, hx⟩ =>
    LAs.use rs ra h (fun ds A1 vs H1 rv1 ra1 ex1 rs1 q1 => ⟨by rw [← rv1.length]; exact q1.1, fun p np =>
      hq ds A1 p vs _ upd_same (RVs.stay ((Ext.tupNew ra1 np).stay ra1) _ _ rv1) (ra1.tupNew np) (ex1.trans (Ext.tupNew ra1 np)) q1.2⟩) hx
theorem dky_cut {m : Nat} {j : Nat} {p3 : Pos} (ha : DE L G n X a ia) : DKy L G n X (.Subscript a (.Slice none (some (.Constant (.int (m : Nat)) j p3)) none p2) pos) (.cutk ia m) := fun C W tk =>
  pe_imp (pe_slice sl_tupA (ha C W tk) (po_none) (po_some (pe_int (i := m)))) fun σ H Q ⟨N, δ, A, Qd, Ed, rs, ra, h, hq, hx⟩ =>
    LE.use rs ra h (fun x A1 v1 H1 rv1 ra1 ex1 rs1 q1 => by
      cases x with
      | tup xs =>
        obtain ⟨hm, q1⟩ : m < xs.length ∧ Qd (.tup (xs.take m)) A1 := q1
        obtain ⟨q, vs, rfl, h1, h2⟩ := rv_tup.mp rv1
        have hl := h2.length
        have e2 : HT.sIx vs.length vs.length (some (m : Int)) = m := by
          show (if (m : Int) < 0 then ((m : Int) + vs.length).toNat else min (m : Int).toNat vs.length) = m
          rw [if_neg (by omega), Int.toNat_natCast]
          omega
        refine ⟨_, rfl, q, vs, rfl, by rw [C.K]; exact h1, fun w => ?_, fun _ p np => ?_⟩
        · have := w.2
          rw [e2] at this
          omega
        · have ec : cutV vs none (some (m : Int)) = vs.take m := by
            unfold cutV
            rw [e2]
            simp [HT.sIx]
          rw [ec]
          exact hq _ A1 p _ _ upd_same (RVs.stay ((Ext.tupNew ra1 np).stay ra1) _ _ (h2.take m)) (ra1.tupNew np) (ex1.trans (Ext.tupNew ra1 np)) q1
      | _ => exact (show False from q1).elim) hx
theorem keyT_rv {A : AH} {N : Addr → Prop} {H : Hp} : ∀ {ds : List DL.D} {vs : List V} {ks : List Key}, alls keyD ds = some ks → RVs L.K A N H ds vs → vs = ks.map kV
  | [], vs, ks, e, r => by
    cases (show some ([] : List Key) = some ks from e)
    exact r.nil'
  | d :: ds, vs, ks, e, r => by
    obtain ⟨v, ws, rfl, r1, r2⟩ := r.cons'
    simp only [alls] at e
    split at e
    · next x xs h1 h2 =>
      cases e
      rw [keyD_rv h1 r1, keyT_rv h2 r2]
      rfl
    · cases e
theorem rt_val {A : AH} {N : Addr → Prop} {H : Hp} (k : List Key) : ∀ {kvs : List (List Key × DL.D)} {ws : List (List Key × V)}, kvs.map (·.1) = ws.map (·.1) → RVs L.K A N H (kvs.map (·.2)) (ws.map (·.2)) →
    (match valT kvs k, L2.valV ws k with | some d, some v => RV L.K A N H d v | none, none => True | _, _ => False)
  | [], [], _, _ => True.intro
  | [], _ :: _, e, _ => by simp at e
  | _ :: _, [], e, _ => by simp at e
  | p :: kvs, q :: ws, e, r => by
    rw [List.map_cons, List.map_cons] at e r
    injection e with e1 e2
    obtain ⟨v, us, e3, r1, r2⟩ := r.cons'
    injection e3 with e3 e4
    subst e3 e4
    by_cases z : p.1 = k
    · have z' : q.1 = k := e1.symm.trans z
      rw [valV_pos z', show valT (p :: kvs) k = some p.2 by simp [valT, List.find?_cons, z]]
      exact r1
    · have z' : ¬ q.1 = k := fun y => z (e1.trans y)
      rw [valV_neg z', show valT (p :: kvs) k = valT kvs k by simp [valT, List.find?_cons, z]]
      exact rt_val k e2 r2
theorem rt_any (k : List Key) : ∀ {kvs : List (List Key × DL.D)} {ws : List (List Key × V)}, kvs.map (·.1) = ws.map (·.1) → (kvs.any fun kv => decide (kv.1 = k)) = ws.any fun kv => decide (kv.1 = k)
  | [], [], _ => rfl
  | [], _ :: _, e => by simp at e
  | _ :: _, [], e => by simp at e
  | p :: kvs, q :: ws, e => by
    rw [List.map_cons, List.map_cons] at e
    injection e with e1 e2
    rw [List.any_cons, List.any_cons, rt_any k e2, e1]
theorem rt_repl {A : AH} {N : Addr → Prop} {H : Hp} {d : DL.D} {v : V} (k : List Key) (rd : RV L.K A N H d v) : ∀ {kvs : List (List Key × DL.D)} {ws : List (List Key × V)}, kvs.map (·.1) = ws.map (·.1) → RVs L.K A N H (kvs.map (·.2)) (ws.map (·.2)) →
    (kvs.map fun kv => if kv.1 = k then (kv.1, d) else kv).map (·.1) = (ws.map fun kv => if kv.1 = k then (kv.1, v) else kv).map (·.1) ∧
      RVs L.K A N H ((kvs.map fun kv => if kv.1 = k then (kv.1, d) else kv).map (·.2)) ((ws.map fun kv => if kv.1 = k then (kv.1, v) else kv).map (·.2))
  | [], [], _, _ => ⟨rfl, .nil⟩
  | [], _ :: _, e, _ => by simp at e
  | _ :: _, [], e, _ => by simp at e
  | p :: kvs, q :: ws, e, r => by
    rw [List.map_cons, List.map_cons] at e r
    injection e with e1 e2
    obtain ⟨u, us, e3, r1, r2⟩ := r.cons'
    injection e3 with e3 e4
    subst e3 e4
    obtain ⟨i1, i2⟩ := rt_repl k rd e2 r2
    simp only [List.map_cons] at i1 i2 ⊢
    by_cases z : p.1 = k
    · have z' : q.1 = k := e1.symm.trans z
      rw [if_pos z, if_pos z']
      exact ⟨by rw [i1, e1], .cons rd i2⟩
    · have z' : ¬ q.1 = k := fun y => z (e1.trans y)
      rw [if_neg z, if_neg z']
      exact ⟨by rw [i1, e1], .cons r1 i2⟩
theorem rt_put {A : AH} {N : Addr → Prop} {H : Hp} {d : DL.D} {v : V} {kvs : List (List Key × DL.D)} {ws : List (List Key × V)} (k : List Key) (rd : RV L.K A N H d v) (e : kvs.map (·.1) = ws.map (·.1)) (r : RVs L.K A N H (kvs.map (·.2)) (ws.map (·.2))) :
    (putT kvs k d).map (·.1) = (L2.putK ws k v).map (·.1) ∧ RVs L.K A N H ((putT kvs k d).map (·.2)) ((L2.putK ws k v).map (·.2)) := by
  unfold putT L2.putK
  rw [rt_any k e]
  split
  · exact rt_repl k rd e r
  · rw [List.map_append, List.map_append, List.map_append, List.map_append, e]
    exact ⟨rfl, r.append (.cons rd .nil)⟩
/-- a new tuple is none of the things told -/
theorem no_told {A : AH} {N : Addr → Prop} {H : Hp} {q : Addr} {vs : List V} (ra : RA L A N H) (h : H q = some (.tup vs)) : A q = none := by
  cases e : A q with
  | none => rfl
  | some o =>
    have r := ra q o e
    cases o with
    | lst xs => obtain ⟨_, z, _⟩ := r; rw [h] at z; cases z
    | dk kvs => obtain ⟨_, z, _⟩ := r; rw [h] at z; cases z
    | dkl kvs u => obtain ⟨z, _, _, z2, _⟩ := r; subst z2; rw [h] at z; cases z
    | ins C fs => obtain ⟨_, _, z, _⟩ := r; rw [h] at z; cases z
    | dt kvs => obtain ⟨_, z, _⟩ := r; rw [h] at z; cases z
theorem de_dnt : DE L G n X (.Dict [] [] pos) (.bi .dnt []) := fun C W tk =>
  pe_imp pe_dnewT fun σ H Q ⟨N, δ, A, Qd, Ed, rs, ra, h, hq, hx⟩ p np => by
    have h : ∀ p, A p = none → Qd (.ref p) (up A p (.dt [])) := h
    exact hq _ _ _ _ (rv_ref.mpr rfl) (ra.new np (o := .dt []) ⟨[], upd_same, rfl, .nil⟩) (Ext.new ra np) (h p (ra.non np))
theorem de_ixt (ha : DE L G n X a ia) (hk : DKy L G n X k ik) (hs : NoSl k) : DE L G n X (.Subscript a k pos) (.ixt ia ik) := fun C W tk =>
  pe_imp (pe_dget (hu_of C.room) (ha C W tk) (hk C W tk) hs) fun σ H Q ⟨N, δ, A, Qd, Ed, rs, ra, h, hq, hx⟩ =>
    LE.use rs ra h (fun x A1 v1 H1 rv1 ra1 ex1 rs1 q1 => LKy.use rs1 ra1 q1 (fun ds A2 b vs H2 hb rv2 ra2 ex2 rs2 q2 => by
      cases x with
      | ref q =>
        try dsimp only at q2
        split at q2
        · next q' ks e0 e1 =>
          cases e0
          split at q2
          · next kvs e2 =>
            split at q2
            · next d e3 =>
              obtain ⟨ws, h1, h2, h3⟩ := ra2 q _ e2
              have z := rt_val ks h2 h3
              rw [e3] at z
              cases e4 : L2.valV ws ks with
              | none => rw [e4] at z; exact z.elim
              | some v =>
                rw [e4] at z
                have e5 := keyT_rv e1 rv2
                subst e5
                refine ⟨q, v, rv_ref.mp rv1, ?_, hq d A2 v H2 z ra2 (ex1.trans ex2) q2⟩
                rw [← e4]
                exact .t h1 hb
            · exact q2.elim
          · exact q2.elim
        · exact q2.elim
      | _ => exact (show False from q2).elim) (XW.ext hx ex1)) hx
def LTn (L : Lk) (W : WX) (wk wa : WE) : TE := fun σ H Q => ∃ (N : Addr → Prop), ∃ δ A, ∃ (Qb : Bool → AH → Prop), ∃ Ed, RS L.K A N H δ σ ∧ RA L A N H ∧
  wk δ A (fun y A1 => wa δ A1 (fun x A2 => match x, keyT y with
      | .ref p, some k => match A2 p with
        | some (.dt kvs) => Qb (!(valT kvs k).isSome) A2
        | _ => False
      | _, _ => False) Ed) Ed ∧
  (∀ z A' H', RA L A' N H' → Ext A H A' H' → Qb z A' → Q (.bl z) H') ∧ ∀ x A' H', RA L A' N H' → Ext A H A' H' → Ed x A' → W (L.XV x) none σ H'
theorem tnin_core (ha : DE L G n X a ia) (hk : DKy L G n X k ik) (C : Cn L G n X) (W : WX) (tk : Takes X W) : PC X .NotIn k a (LTn L W (wpE (callN G n) G ik) (wpE (callN G n) G ia)) := by
  refine ⟨fun pins s σ H Q I q => (pc_dnotin (hu_of C.room) (hk C W tk) (ha C W tk)).run pins s σ H Q I ?_⟩
  obtain ⟨N, δ, A, Qb, Ed, rs, ra, h, hq, hx⟩ := q
  refine LKy.use rs ra h (fun ds A1 b vs H1 hb rv1 ra1 ex1 rs1 q1 => LE.use rs1 ra1 q1 (fun x A2 v2 H2 rv2 ra2 ex2 rs2 q2 => ?_) (XW.ext hx ex1)) hx
  cases x with
  | ref q =>
    try dsimp only at q2
    split at q2
    · next q' ks e0 e1 =>
      cases e0
      split at q2
      · next kvs e2 =>
        obtain ⟨ws, h1, h2, h3⟩ := ra2 q _ e2
        have z := rt_val ks h2 h3
        have e5 := keyT_rv e1 rv1
        subst e5
        have hb2 := (ex2 b _ hb (no_told ra1 hb)).1
        have es : (L2.valV ws ks).isSome = (valT kvs ks).isSome := by
          revert z
          cases valT kvs ks <;> cases L2.valV ws ks <;> intro z <;> first | rfl | exact z.elim
        refine ⟨q, L2.valV ws ks, rv_ref.mp rv2, .t h1 hb2, ?_⟩
        rw [es]
        exact hq _ A2 H2 ra2 (ex1.trans ex2) q2
      · exact q2.elim
    · exact q2.elim
  | _ => exact (show False from q2).elim
theorem tninT (hk : DKy L G n X k ik) (ha : DE L G n X a ia) (hm : behindInMarks .NotIn a = false := by rfl) : DT L G n X (.Compare k [.NotIn] [a] pos) (.val (.tnin ik ia)) := fun C W tk =>
  pt_imp (pt_cmp (tnin_core ha hk C W tk) hm) fun σ H Q ⟨N, δ, A, Qd, Ed, rs, ra, h, hq, hx⟩ =>
    ⟨N, δ, A, Qd, Ed, rs, ra, h, fun z A' H' r x q => ⟨z, rfl, hq z A' H' r x q⟩, hx⟩
theorem ds_subt {sp : Pos} (ho : DE L G n X o io) (hk : DKy L G n X k ik) (he : DE L G n X e ie) (hs : swapsWith e (some (.Subscript o k sp)) pos.line X.env = pure false) : DS L G n X (.Assign [.Subscript o k sp] e pos) (.subt io ik ie) := fun C po W tk =>
  ps_imp (ps_dput (hu_of C.room) (ho C W tk) (hk C W tk) (he C W tk) hs) fun D σ H ⟨N, δ, A, P, rs, ra, h, hn, hr, hc, hx⟩ =>
    LE.use rs ra h (fun d A1 v1 H1 rv1 ra1 ex1 rs1 q1 => LE.use rs1 ra1 q1 (fun x A2 v2 H2 rv2 ra2 ex2 rs2 q2 => LKy.use rs2 ra2 q2 (fun ds A3 b vs H3 hb rv3 ra3 ex3 rs3 q3 => by
      cases x with
      | ref q =>
        try dsimp only at q3
        split at q3
        · next q' ks e0 e1 =>
          cases e0
          split at q3
          · next kvs e2 =>
            obtain ⟨hl, q3⟩ := q3
            obtain ⟨ws, h1, h2, h3⟩ := ra3 q _ e2
            have r1 := RV.stay (ex3.stay ra2) _ _ (RV.stay (ex2.stay ra1) _ _ rv1)
            have e5 := keyT_rv e1 rv3
            subst e5
            have lw : ws.length = kvs.length := by have := congrArg List.length h2; simpa using this.symm
            obtain ⟨p1, p2⟩ := rt_put ks r1 h2 h3
            have ex4 : Ext A3 H3 (up A3 q (.dt (putT kvs ks d))) (upd H3 q (.dT (L2.putK ws ks v1))) := Ext.put e2
            refine ⟨q, _, rv_ref.mp rv2, .t h1 hb (by rw [lw]; exact hl), hn δ _ σ _ (rs3.stay (ex4.stay ra3)) (ra3.put e2 ⟨_, upd_same, p1, RVs.stay (ex4.stay ra3) _ _ p2⟩) (((ex1.trans ex2).trans ex3).trans ex4) q3⟩
          · exact q3.elim
        · exact q3.elim
      | _ => exact (show False from q3).elim) (exq rs2 ra2 fun x δ' A' σ' H' r0 r e q => hx x δ' A' σ' H' r0 r ((ex1.trans ex2).trans e) q)) (exq rs1 ra1 fun x δ' A' σ' H' r0 r e q => hx x δ' A' σ' H' r0 r (ex1.trans e) q)) (exq rs ra hx)
theorem subt_ {sp : Pos} (ho : DE L G n X o io) (hk : DKy L G n X k ik) (he : DE L G n X e ie) (hs : swapsWith e (some (.Subscript o k sp)) pos.line X.env = pure false := by rfl) : DS L G n X (.Assign [.Subscript o k sp] e pos) (.subt io ik ie) := ds_subt ho hk he hs
end
end DL

set_option Elab.async false
set_option linter.all false
set_option maxRecDepth 100000
set_option maxHeartbeats 1000000
/-! repr of a tuple, where nothing is being shown: at the top of the law alone -/
namespace DL
open PySem PySem.Spec PyProof.Rows L2
section
variable {L : Lk} {G : Gm} {n : Nat} {X : Cx} {e : Expr} {ie : IE} {p pos : Pos}
def rRepr (K : PySem.W.Frag) : List V → Hp → VK → Prop := fun xs H Q => ∃ (a : Addr) (d : PyData), xs = [.ref a] ∧ Dp K H (.ref a) d ∧ d.depth ≤ 8 ∧ (d.showable = true ∧ d.hasDict = false ∧ d.shown.length ≤ sizeLine) ∧ Q (.str d.shown) H
end
end DL

set_option linter.all false
set_option maxRecDepth 100000
/-! the forms of the defs that stand in several laws -/
namespace IR
open DL PySem
def is_whole : List IS := [(.ret (.andv (.isi .int (.var 0)) (.andv (.notv (.isi .bool (.var 0))) (.chn .le .le (.var 1) (.var 0) (.var 2)))))]
def is_stretch : List IS := [(.iff (.or (.not (.val (.isi .tuple (.var 0)))) (.or (.val (.cmp .ne (.bi .len [(.var 0)]) (.cst (.int 2)))) (.not (.val (.call 1 [(.ix (.var 0) (.cst (.int 0))), (.cst (.int 0)), (.bin .sub (.cst (.int 100)) (.cst (.int 1)))]))))) [(.ret (.cst (.bl false)))] []),
  (.ret (.call 1 [(.ix (.var 0) (.cst (.int 1))), (.bin .add (.ix (.var 0) (.cst (.int 0))) (.cst (.int 1))), (.cst (.int 100))]))]
def is_spread : List IS := [(.iff (.or (.not (.val (.isi .tuple (.var 0)))) (.not (.val (.bi .all [(.comp .seq [(.var 0)] [1] (.nm 1) .yes (.call 2 [(.var 1)]))])))) [(.ret (.cst (.bl false)))] []),
  (.ret (.bi .all [(.comp .zip [(.cut (.var 0) none (some (.neg (.cst (.int 1))))), (.cut (.var 0) (some (.cst (.int 1))) none)] [1, 2] (.tp [(.nm 1), (.nm 2)]) .yes (.cmp .lt (.ix (.var 1) (.cst (.int 1))) (.ix (.var 2) (.cst (.int 0)))))]))]
def spread_of_b1 : List IS := [(.iff (.and (.val (.var 1)) (.val (.cmp .le (.var 2) (.ix (.ix (.var 1) (.neg (.cst (.int 1)))) (.cst (.int 1)))))) [(.sub (.var 1) (.neg (.cst (.int 1))) (.tup [(.ix (.ix (.var 1) (.neg (.cst (.int 1)))) (.cst (.int 0))), (.bi .max2 [(.ix (.ix (.var 1) (.neg (.cst (.int 1)))) (.cst (.int 1))), (.var 3)])]))] [(.expr (.bm .append (.var 1) [(.tup [(.var 2), (.var 3)])]))])]
def spread_of : List IS := [(.set 1 (.lst [])),
  (.for .seq [(.bi .sorted [(.var 0)])] (.tp [(.nm 2), (.nm 3)]) spread_of_b1),
  (.ret (.bi .tuple [(.var 1)]))]
def spread_by : List IS := [(.ret (.call 4 [(.comp .seq [(.var 0)] [1] (.nm 1) .yes (.tup [(.var 1), (.bin .add (.var 1) (.cst (.int 1)))]))]))]
def has : List IS := [(.ret (.bi .any [(.comp .seq [(.var 0)] [2, 3] (.tp [(.nm 2), (.nm 3)]) .yes (.chn .le .lt (.var 2) (.var 1) (.var 3)))]))]
def size : List IS := [(.ret (.bi .sum [(.comp .seq [(.var 0)] [1, 2] (.tp [(.nm 1), (.nm 2)]) .yes (.bin .sub (.var 2) (.var 1)))]))]
def keys_of_b1 : List IS := [(.expr (.bm .extend (.var 1) [(.rgl false [(.var 2), (.var 3)])]))]
def keys_of : List IS := [(.set 1 (.lst [])),
  (.for .seq [(.var 0)] (.tp [(.nm 2), (.nm 3)]) keys_of_b1),
  (.ret (.bi .tuple [(.var 1)]))]
def joined : List IS := [(.ret (.call 4 [(.bin .add (.var 0) (.var 1))]))]
def met_b1 : List IS := [(.iff (.val (.cmp .lt (.bi .max2 [(.var 3), (.var 5)]) (.bi .min2 [(.var 4), (.var 6)]))) [(.expr (.bm .append (.var 2) [(.tup [(.bi .max2 [(.var 3), (.var 5)]), (.bi .min2 [(.var 4), (.var 6)])])]))] [])]
def met_b2 : List IS := [(.for .seq [(.var 1)] (.tp [(.nm 5), (.nm 6)]) met_b1)]
def met : List IS := [(.set 2 (.lst [])),
  (.for .seq [(.var 0)] (.tp [(.nm 3), (.nm 4)]) met_b2),
  (.ret (.call 4 [(.var 2)]))]
def turned_out_b1 : List IS := [(.iff (.and (.val (.cmp .gt (.var 5) (.var 4))) (.val (.cmp .lt (.var 4) (.var 2)))) [(.expr (.bm .append (.var 3) [(.tup [(.var 4), (.bi .min2 [(.var 5), (.var 2)])])]))] []),
  (.set 4 (.bi .max2 [(.var 4), (.var 6)]))]
def turned_out : List IS := [(.set 3 (.lst [])),
  (.set 4 (.var 1)),
  (.for .seq [(.var 0)] (.tp [(.nm 5), (.nm 6)]) turned_out_b1),
  (.iff (.val (.cmp .lt (.var 4) (.var 2))) [(.expr (.bm .append (.var 3) [(.tup [(.var 4), (.var 2)])]))] []),
  (.ret (.bi .tuple [(.var 3)]))]
def without_b1 : List IS := [(.set 2 (.bin .add (.var 2) (.call 11 [(.var 1), (.var 3), (.var 4)])))]
def without : List IS := [(.set 2 (.tup [])),
  (.for .seq [(.var 0)] (.tp [(.nm 3), (.nm 4)]) without_b1),
  (.ret (.var 2))]
def is_within : List IS := [(.ret (.cmp .eq (.call 12 [(.var 0), (.var 1)]) (.tup [])))]
def lacking : List IS := [(.ret (.call 11 [(.var 0), (.var 1), (.var 2)]))]
def first_free_b1 : List IS := [(.iff (.val (.cmp .ge (.bin .sub (.var 5) (.var 4)) (.var 1))) [(.ret (.var 4))] [])]
def first_free : List IS := [(.for .seq [(.call 11 [(.var 0), (.var 2), (.var 3)])] (.tp [(.nm 4), (.nm 5)]) first_free_b1),
  (.ret (.cst .non))]
def parts_b1 : List IS := [(.expr (.bm .append (.var 2) [(.tup [(.var 3), (.bin .add (.var 3) (.var 1))])])),
  (.set 3 (.bin .add (.var 3) (.var 1)))]
def parts_b2 : List IS := [(.whil (.val (.cmp .gt (.bin .sub (.var 4) (.var 3)) (.var 1))) parts_b1),
  (.expr (.bm .append (.var 2) [(.tup [(.var 3), (.var 4)])]))]
def parts : List IS := [(.set 2 (.lst [])),
  (.for .seq [(.var 0)] (.tp [(.nm 3), (.nm 4)]) parts_b2),
  (.ret (.bi .tuple [(.var 2)]))]
def asks_b1 : List IS := [(.iff (.and (.val (.var 2)) (.val (.cmp .lt (.bin .sub (.var 3) (.ix (.ix (.var 2) (.neg (.cst (.int 1)))) (.cst (.int 1)))) (.var 1)))) [(.sub (.var 2) (.neg (.cst (.int 1))) (.tup [(.ix (.ix (.var 2) (.neg (.cst (.int 1)))) (.cst (.int 0))), (.var 4)]))] [(.expr (.bm .append (.var 2) [(.tup [(.var 3), (.var 4)])]))])]
def asks : List IS := [(.set 2 (.lst [])),
  (.for .seq [(.var 0)] (.tp [(.nm 3), (.nm 4)]) asks_b1),
  (.ret (.bi .tuple [(.var 2)]))]
def cost_of : List IS := [(.ret (.bi .sum [(.comp .seq [(.var 0)] [2, 3] (.tp [(.nm 2), (.nm 3)]) .yes (.bin .sub (.bin .add (.var 1) (.var 3)) (.var 2)))]))]
def waste : List IS := [(.set 2 (.call 17 [(.var 0), (.var 1)])),
  (.ret (.bin .sub (.bi .sum [(.comp .seq [(.var 2)] [3, 4] (.tp [(.nm 3), (.nm 4)]) .yes (.bin .sub (.var 4) (.var 3)))]) (.bi .sum [(.comp .seq [(.var 0)] [3, 4] (.tp [(.nm 3), (.nm 4)]) .yes (.bin .sub (.var 4) (.var 3)))])))]
def asks_within_b1 : List IS := [(.iff (.and (.val (.var 4)) (.val (.cmp .nin (.bin .sub (.var 5) (.cst (.int 1))) (.var 3)))) [(.sub (.var 4) (.neg (.cst (.int 1))) (.tup [(.ix (.ix (.var 4) (.neg (.cst (.int 1)))) (.cst (.int 0))), (.var 7)]))] [(.expr (.bm .append (.var 4) [(.tup [(.var 6), (.var 7)])]))])]
def asks_within : List IS := [(.set 2 (.fz (.bi .sorted [(.fz (.comp .ezip [(.cut (.var 0) none (some (.neg (.cst (.int 1))))), (.cut (.var 0) (some (.cst (.int 1))) none)] [5, 9, 10] (.tp [(.nm 5), (.tp [(.nm 9), (.nm 10)])]) .yes (.tup [(.bin .sub (.ix (.var 10) (.cst (.int 0))) (.ix (.var 9) (.cst (.int 1)))), (.var 5)])))]))),
  (.set 3 (.fz (.comp .seq [(.fz (.cut (.var 2) (some (.bi .max2 [(.cst (.int 0)), (.bin .sub (.bi .len [(.var 0)]) (.var 1))])) none))] [8, 5] (.tp [(.nm 8), (.nm 5)]) .yes (.var 5)))),
  (.set 4 (.lst [])),
  (.for .enum [(.var 0)] (.tp [(.nm 5), (.tp [(.nm 6), (.nm 7)])]) asks_within_b1),
  (.ret (.bi .tuple [(.var 4)]))]
def Source___init__ : List IS := [(.put 1 0 (.var 0) (.lst [(.fz (.bi .dictt [(.var 1)]))])),
  (.put 1 1 (.var 0) (.lst [])),
  (.put 1 2 (.var 0) (.cst (.int 0))),
  (.put 1 3 (.var 0) (.cst (.int 0)))]
def Source_clock : List IS := [(.ret (.bi .len [(.fld 1 1 (.var 0))]))]
def Source_need : List IS := [(.iff (.not (.val (.chn .le .le (.cst (.int 0)) (.var 1) (.meth 5 (.var 0) [])))) [(.rais 1)] [])]
def Source_look : List IS := [(.ret (.meth 12 (.var 0) [(.meth 5 (.var 0) []), (.var 1), (.var 2)]))]
def Source_look_at : List IS := [(.expr (.meth 13 (.var 0) [(.var 1)])),
  (.set 4 (.ix (.fld 1 0 (.var 0)) (.var 1))),
  (.ret (.ptl (.fz (.comp .seq [(.fz (.bi .sortd [(.var 4)]))] [5] (.nm 5) (.val (.chn .le .lt (.var 2) (.var 5) (.var 3))) (.tup [(.var 5), (.ix (.var 4) (.var 5))])))))]
def Source_ask : List IS := [(.put 1 2 (.var 0) (.bin .add (.fld 1 2 (.var 0)) (.cst (.int 1)))),
  (.put 1 3 (.var 0) (.bin .sub (.bin .add (.fld 1 3 (.var 0)) (.var 2)) (.var 1))),
  (.ret (.meth 11 (.var 0) [(.var 1), (.var 2)]))]
def Source_told : List IS := [(.ret (.tup [(.fld 1 2 (.var 0)), (.fld 1 3 (.var 0))]))]
def Source_put : List IS := [(.set 3 (.bi .dict [(.ix (.fld 1 0 (.var 0)) (.neg (.cst (.int 1))))])),
  (.sub (.var 3) (.var 1) (.var 2)),
  (.expr (.bm .append (.fld 1 0 (.var 0)) [(.fz (.var 3))])),
  (.expr (.bm .append (.fld 1 1 (.var 0)) [(.var 1)]))]
def Source_drop : List IS := [(.set 2 (.bi .dict [(.ix (.fld 1 0 (.var 0)) (.neg (.cst (.int 1))))])),
  (.expr (.bm .dpop (.var 2) [(.var 1), (.cst .non)])),
  (.expr (.bm .append (.fld 1 0 (.var 0)) [(.fz (.var 2))])),
  (.expr (.bm .append (.fld 1 1 (.var 0)) [(.var 1)]))]
def Source_changes_since : List IS := [(.expr (.meth 13 (.var 0) [(.var 1)])),
  (.ret (.call 5 [(.fz (.cut (.fld 1 1 (.var 0)) (some (.var 1)) none))]))]
def Source_unlike_since : List IS := [(.expr (.meth 13 (.var 0) [(.var 1)])),
  (.set 2 (.ix (.fld 1 0 (.var 0)) (.var 1))),
  (.set 3 (.ix (.fld 1 0 (.var 0)) (.neg (.cst (.int 1))))),
  (.set 4 (.fz (.bi .ssort [(.fz (.bin .add (.fz (.bi .listd [(.var 2)])) (.fz (.bi .listd [(.var 3)]))))]))),
  (.ret (.call 5 [(.fz (.comp .seq [(.var 4)] [5] (.nm 5) (.val (.cmp .ne (.bm .get (.var 2) [(.var 5), (.cst .non)]) (.bm .get (.var 3) [(.var 5), (.cst .non)]))) (.var 5)))]))]
def Keeper___init__ : List IS := [(.put 2 0 (.var 0) (.var 1)),
  (.put 2 1 (.var 0) (.var 2)),
  (.put 2 2 (.var 0) (.var 3)),
  (.put 2 3 (.var 0) (.meth 5 (.var 1) [])),
  (.put 2 4 (.var 0) (.cst (.int 0))),
  (.put 2 5 (.var 0) (.dic [])),
  (.put 2 6 (.var 0) (.dic []))]
def Keeper_known : List IS := [(.ret (.call 5 [(.fz (.bi .sortd [(.fld 2 5 (.var 0))]))]))]
def Keeper_forget_b1 : List IS := [(.expr (.bm .dpop (.fld 2 5 (.var 0)) [(.var 2)])),
  (.expr (.bm .dpop (.fld 2 6 (.var 0)) [(.var 2), (.cst .non)]))]
def Keeper_forget : List IS := [(.for .seq [(.call 8 [(.call 10 [(.meth 10 (.var 0) []), (.var 1)])])] (.nm 2) Keeper_forget_b1)]
def Keeper_hear : List IS := [(.set 1 (.call 10 [(.meth 10 (.var 0) []), (.meth 4 (.fld 2 0 (.var 0)) [(.fld 2 3 (.var 0))])])),
  (.expr (.meth 8 (.var 0) [(.var 1)])),
  (.put 2 3 (.var 0) (.meth 5 (.fld 2 0 (.var 0)) [])),
  (.ret (.var 1))]
def Keeper_take_b1 : List IS := [(.expr (.bm .dpop (.fld 2 6 (.var 0)) [(.var 5), (.cst .non)])),
  (.sub (.fld 2 5 (.var 0)) (.var 5) (.fld 2 4 (.var 0))),
  (.iff (.val (.cmp .kin (.var 5) (.var 4))) [(.sub (.fld 2 6 (.var 0)) (.var 5) (.ix (.var 4) (.var 5)))] [])]
def Keeper_take : List IS := [(.set 4 (.fz (.bi .dictt [(.var 3)]))),
  (.for .rng [(.var 1), (.var 2)] (.nm 5) Keeper_take_b1)]
def Keeper_shrink_b1 : List IS := [(.expr (.bm .dpop (.fld 2 5 (.var 0)) [(.var 3)])),
  (.expr (.bm .dpop (.fld 2 6 (.var 0)) [(.var 3), (.cst .non)]))]
def Keeper_shrink : List IS := [(.set 1 (.fz (.bi .sorted [(.fz (.lk (.comp .keys [(.fld 2 5 (.var 0))] [3] (.nm 3) .yes (.tup [(.ix (.fld 2 5 (.var 0)) (.var 3)), (.var 3)]))))]))),
  (.for .seq [(.fz (.cut (.var 1) none (some (.bi .max2 [(.cst (.int 0)), (.bin .sub (.bi .len [(.var 1)]) (.fld 2 1 (.var 0)))]))))] (.tp [(.nm 2), (.nm 3)]) Keeper_shrink_b1)]
def Keeper_told : List IS := [(.ret (.ptl (.fz (.comp .seq [(.fz (.bi .sortd [(.fld 2 6 (.var 0))]))] [3] (.nm 3) (.val (.chn .le .lt (.var 1) (.var 3) (.var 2))) (.tup [(.var 3), (.ix (.fld 2 6 (.var 0)) (.var 3))])))))]
def Keeper_peek : List IS := [(.iff (.not (.val (.call 13 [(.tup [(.tup [(.var 1), (.var 2)])]), (.meth 10 (.var 0) [])]))) [(.ret (.cst .non))] []),
  (.ret (.wk (.meth 22 (.var 0) [(.var 1), (.var 2)])))]
def Keeper_plan : List IS := [(.ret (.call 17 [(.call 14 [(.meth 10 (.var 0) []), (.var 1), (.var 2)]), (.fld 2 2 (.var 0))]))]
def Keeper_ask_b1 : List IS := [(.expr (.meth 21 (.var 0) [(.var 3), (.var 4), (.meth 2 (.fld 2 0 (.var 0)) [(.var 3), (.var 4)])]))]
def Keeper_ask_b2 : List IS := [(.sub (.fld 2 5 (.var 0)) (.var 5) (.fld 2 4 (.var 0)))]
def Keeper_ask : List IS := [(.expr (.meth 9 (.var 0) [])),
  (.put 2 4 (.var 0) (.bin .add (.fld 2 4 (.var 0)) (.cst (.int 1)))),
  (.for .seq [(.meth 16 (.var 0) [(.var 1), (.var 2)])] (.tp [(.nm 3), (.nm 4)]) Keeper_ask_b1),
  (.for .rng [(.var 1), (.var 2)] (.nm 5) Keeper_ask_b2),
  (.set 6 (.wk (.meth 22 (.var 0) [(.var 1), (.var 2)]))),
  (.expr (.meth 19 (.var 0) [])),
  (.ret (.var 6))]
def Keeper_page_b1 : List IS := [(.set 3 (.bin .add (.var 3) (.meth 2 (.var 0) [(.var 4), (.bi .min2 [(.cst (.int 100)), (.bin .add (.var 4) (.cst (.int 8)))])]))),
  (.set 4 (.bi .min2 [(.cst (.int 100)), (.bin .add (.var 4) (.cst (.int 8)))]))]
def Keeper_page : List IS := [(.set 3 (.tup [])),
  (.set 4 (.var 1)),
  (.whil (.and (.val (.cmp .lt (.var 4) (.cst (.int 100)))) (.val (.cmp .lt (.bi .len [(.var 3)]) (.var 2)))) Keeper_page_b1),
  (.iff (.val (.cmp .ge (.bi .len [(.var 3)]) (.var 2))) [(.set 3 (.cut (.var 3) none (some (.var 2)))),
  (.set 4 (.var 1)),
  (.iff (.val (.var 3)) [(.set 4 (.bin .add (.ix (.ix (.var 3) (.neg (.cst (.int 1)))) (.cst (.int 0))) (.cst (.int 1))))] [])] []),
  (.iff (.val (.cmp .ge (.var 4) (.cst (.int 100)))) [(.ret (.tup [(.var 3), (.cst .non)]))] []),
  (.ret (.tup [(.var 3), (.var 4)]))]
def Keeper_share_b1 : List IS := [(.expr (.meth 21 (.var 0) [(.var 3), (.var 4), (.meth 22 (.var 1) [(.var 3), (.var 4)])]))]
def Keeper_share : List IS := [(.expr (.meth 9 (.var 0) [])),
  (.expr (.meth 9 (.var 1) [])),
  (.set 2 (.call 12 [(.meth 10 (.var 1) []), (.meth 10 (.var 0) [])])),
  (.put 2 4 (.var 0) (.bin .add (.fld 2 4 (.var 0)) (.cst (.int 1)))),
  (.for .seq [(.var 2)] (.tp [(.nm 3), (.nm 4)]) Keeper_share_b1),
  (.expr (.meth 19 (.var 0) [])),
  (.ret (.var 2))]
def Summer___init__ : List IS := [(.put 3 0 (.var 0) (.var 1)),
  (.put 3 1 (.var 0) (.meth 5 (.var 1) [])),
  (.put 3 2 (.var 0) (.tup [])),
  (.put 3 3 (.var 0) (.cst (.int 0)))]
def Summer_sums : List IS := [(.ret (.fld 3 2 (.var 0)))]
def Summer_asked : List IS := [(.ret (.fld 3 3 (.var 0)))]
def Summer_hear : List IS := [(.set 1 (.meth 4 (.fld 3 0 (.var 0)) [(.fld 3 1 (.var 0))])),
  (.set 2 (.bi .tuple [(.fz (.comp .seq [(.fld 3 2 (.var 0))] [4] (.nm 4) (.not (.val (.call 51 [(.var 1), (.ix (.var 4) (.cst (.int 0))), (.ix (.var 4) (.cst (.int 1)))]))) (.var 4)))])),
  (.set 3 (.bin .sub (.bi .len [(.fld 3 2 (.var 0))]) (.bi .len [(.var 2)]))),
  (.put 3 2 (.var 0) (.var 2)),
  (.put 3 1 (.var 0) (.meth 5 (.fld 3 0 (.var 0)) [])),
  (.ret (.var 3))]
def Summer_ask : List IS := [(.expr (.meth 9 (.var 0) [])),
  (.set 3 (.meth 7 (.var 0) [(.var 1), (.var 2)])),
  (.iff (.val (.isn false (.var 3))) [(.set 3 (.bi .sum [(.fz (.comp .seq [(.wk (.meth 2 (.fld 3 0 (.var 0)) [(.var 1), (.var 2)]))] [4, 5] (.tp [(.nm 4), (.nm 5)]) .yes (.var 5)))])),
  (.put 3 3 (.var 0) (.bin .add (.fld 3 3 (.var 0)) (.cst (.int 1)))),
  (.put 3 2 (.var 0) (.bi .tuple [(.fz (.bi .sort3 [(.bin .add (.fld 3 2 (.var 0)) (.tup [(.tup [(.var 1), (.var 2), (.var 3)])]))]))]))] []),
  (.ret (.var 3))]
def touches : List IS := [(.ret (.bi .any [(.fz (.comp .seq [(.var 0)] [3, 4] (.tp [(.nm 3), (.nm 4)]) .yes (.andv (.cmp .lt (.var 3) (.var 2)) (.cmp .lt (.var 1) (.var 4)))))]))]
def holds_from_b1 : List IS := [(.set 5 (.bin .sub (.var 5) (.cst (.int 1))))]
def holds_from : List IS := [(.set 4 (.wk (.meth 12 (.var 0) [(.var 1), (.var 2), (.var 3)]))),
  (.set 5 (.var 1)),
  (.whil (.and (.val (.cmp .gt (.var 5) (.cst (.int 0)))) (.val (.cmp .eq (.wk (.meth 12 (.var 0) [(.bin .sub (.var 5) (.cst (.int 1))), (.var 2), (.var 3)])) (.var 4)))) holds_from_b1),
  (.ret (.var 5))]
def holds_to_b1 : List IS := [(.iff (.val (.cmp .ne (.wk (.meth 12 (.var 0) [(.var 5), (.var 2), (.var 3)])) (.var 4))) [(.ret (.bin .sub (.var 5) (.cst (.int 1))))] [])]
def holds_to : List IS := [(.set 4 (.wk (.meth 12 (.var 0) [(.var 1), (.var 2), (.var 3)]))),
  (.for .rng [(.bin .add (.var 1) (.cst (.int 1))), (.bin .add (.meth 5 (.var 0) []) (.cst (.int 1)))] (.nm 5) holds_to_b1),
  (.ret (.cst .non))]
def clocks_of : List IS := [(.ret (.bi .tuple [(.fz (.comp .rng [(.bin .add (.meth 5 (.var 0) []) (.cst (.int 1)))] [4] (.nm 4) (.val (.cmp .eq (.wk (.meth 12 (.var 0) [(.var 4), (.var 1), (.var 2)])) (.var 3))) (.var 4)))]))]
def together_b1 : List IS := [(.set 6 (.call 54 [(.var 0), (.var 3), (.var 4), (.var 5)])),
  (.set 2 (.bi .tuple [(.fz (.comp .seq [(.var 2)] [7] (.nm 7) (.val (.cmp .inn (.var 7) (.var 6))) (.var 7)))]))]
def together : List IS := [(.set 2 (.rgl true [(.bin .add (.meth 5 (.var 0) []) (.cst (.int 1)))])),
  (.for .seq [(.var 1)] (.tp [(.nm 3), (.nm 4), (.nm 5)]) together_b1),
  (.ret (.var 2))]
def lately : List IS := [(.set 2 (.call 55 [(.var 0), (.var 1)])),
  (.iff (.not (.val (.var 2))) [(.rais 1)] []),
  (.ret (.ix (.var 2) (.neg (.cst (.int 1)))))]
def number_in : List IS := [(.iff (.or (.not (.val (.chn .le .le (.cst (.int 1)) (.bi .len [(.var 0)]) (.cst (.int 3))))) (.not (.val (.bi .all [(.fz (.comp .sgn [(.var 0)] [1] (.nm 1) .yes (.cmp .sin (.var 1) (.cst (.str "0123456789")))))])))) [(.rais 2)] []),
  (.ret (.bi .ints [(.var 0)]))]
def law_same : List IS := [(.iff (.val (.isn false (.var 1))) [(.ret (.isn false (.var 0)))] []),
  (.iff (.val (.isi .bool (.var 1))) [(.ret (.andv (.isi .bool (.var 0)) (.cmp .eq (.var 0) (.var 1))))] []),
  (.iff (.val (.isi .tuple (.var 1))) [(.iff (.or (.not (.val (.isi .tuple (.var 0)))) (.val (.cmp .ne (.bi .len [(.var 0)]) (.bi .len [(.var 1)])))) [(.ret (.cst (.bl false)))] []),
  (.ret (.bi .all [(.comp .zip [(.var 0), (.var 1)] [2, 3] (.tp [(.nm 2), (.nm 3)]) .yes (.call 101 [(.var 2), (.var 3)]))]))] []),
  (.iff (.val (.isi .str (.var 1))) [(.ret (.andv (.isi .str (.var 0)) (.cmp .eq (.var 0) (.var 1))))] []),
  (.ret (.andv (.isi .int (.var 0)) (.andv (.notv (.isi .bool (.var 0))) (.cmp .eq (.var 0) (.var 1)))))]
def law_draw_k01 : List IS := [(.expr (.bm .append (.var 1) [(.cst (.int 0))])),
  (.set 3 (.bi .len [(.var 1)])),
  (.set 4 (.cst (.int 0))),
  (.iff (.val (.var 0)) [(.set 4 (.ix (.var 0) (.bin .mod (.var 3) (.bi .len [(.var 0)]))))] []),
  (.set 5 (.bin .mod (.bin .add (.var 4) (.bin .mul (.cst (.int 104729)) (.var 3))) (.cst (.int 4294967291)))),
  (.set 5 (.bin .mod (.bin .mul (.bin .mod (.bin .mul (.var 5) (.var 5)) (.cst (.int 4294967279))) (.cst (.int 48271))) (.cst (.int 4294967291)))),
  (.ret (.bin .mod (.bin .fdiv (.var 5) (.cst (.int 64))) (.var 2)))]
def law_draw_k18 : List IS := [(.expr (.bm .append (.var 1) [(.cst (.int 0))])),
  (.set 3 (.bi .len [(.var 1)])),
  (.set 4 (.cst (.int 0))),
  (.iff (.val (.var 0)) [(.set 4 (.ix (.var 0) (.bin .mod (.var 3) (.bi .len [(.var 0)]))))] []),
  (.set 5 (.bin .mod (.bin .add (.var 4) (.bin .mul (.cst (.int 104729)) (.var 3))) (.cst (.int 4294967291)))),
  (.set 5 (.bin .mod (.bin .mul (.bin .mod (.bin .mul (.var 5) (.var 5)) (.cst (.int 4294967279))) (.cst (.int 48271))) (.cst (.int 4294967291)))),
  (.set 6 (.bin .mod (.bin .mul (.bin .mod (.bin .mul (.var 5) (.var 5)) (.cst (.int 4294967279))) (.cst (.int 69621))) (.cst (.int 4294967291)))),
  (.ret (.bin .mod (.bin .add (.bin .mul (.bin .fdiv (.var 5) (.cst (.int 64))) (.cst (.int 67108864))) (.bin .fdiv (.var 6) (.cst (.int 64)))) (.var 2)))]
def law_pick : List IS := [(.ret (.ix (.var 2) (.call 102 [(.var 0), (.var 1), (.bi .len [(.var 2)])])))]
def law_stretches_b1 : List IS := [(.set 6 (.call 102 [(.var 0), (.var 1), (.ix (.lst [(.cst (.int 100)), (.cst (.int 24))]) (.bi .int1 [(.var 4)]))])),
  (.set 7 (.bin .add (.cst (.int 1)) (.call 102 [(.var 0), (.var 1), (.call 103 [(.var 0), (.var 1), (.lst [(.cst (.int 1)), (.cst (.int 4)), (.cst (.int 12)), (.cst (.int 100))])])]))),
  (.set 3 (.bin .add (.var 3) (.tup [(.tup [(.var 6), (.bi .min2 [(.cst (.int 100)), (.bin .add (.var 6) (.var 7))])])])))]
def law_stretches : List IS := [(.set 3 (.tup [])),
  (.set 4 (.cmp .eq (.call 102 [(.var 0), (.var 1), (.cst (.int 3))]) (.cst (.int 0)))),
  (.for .rng [(.call 102 [(.var 0), (.var 1), (.bin .add (.var 2) (.cst (.int 1)))])] (.nm 5) law_stretches_b1),
  (.ret (.var 3))]
def law_keys_k01_b1 : List IS := [(.sub (.var 1) (.var 4) (.cst (.bl true)))]
def law_keys_k01_b2 : List IS := [(.for .rng [(.var 2), (.var 3)] (.nm 4) law_keys_k01_b1)]
def law_keys_k01 : List IS := [(.set 1 (.bin .mul (.lst [(.cst (.bl false))]) (.cst (.int 100)))),
  (.for .seq [(.var 0)] (.tp [(.nm 2), (.nm 3)]) law_keys_k01_b2),
  (.ret (.var 1))]
def law_keys_k18_b1 : List IS := [(.expr (.bm .extend (.var 1) [(.rgl false [(.var 2), (.var 3)])]))]
def law_keys_k18 : List IS := [(.set 1 (.lst [])),
  (.for .seq [(.var 0)] (.tp [(.nm 2), (.nm 3)]) law_keys_k18_b1),
  (.ret (.var 1))]
def law_form_b1 : List IS := [(.iff (.and (.val (.ix (.var 0) (.var 2))) (.and (.val (.cmp .gt (.var 2) (.cst (.int 0)))) (.val (.ix (.var 0) (.bin .sub (.var 2) (.cst (.int 1))))))) [(.sub (.var 1) (.neg (.cst (.int 1))) (.tup [(.ix (.ix (.var 1) (.neg (.cst (.int 1)))) (.cst (.int 0))), (.bin .add (.var 2) (.cst (.int 1)))]))] [(.iff (.val (.ix (.var 0) (.var 2))) [(.expr (.bm .append (.var 1) [(.tup [(.var 2), (.bin .add (.var 2) (.cst (.int 1)))])]))] [])])]
def law_form : List IS := [(.set 1 (.lst [])),
  (.for .rng [(.cst (.int 100))] (.nm 2) law_form_b1),
  (.ret (.bi .tuple [(.var 1)]))]
def law_spread_k01 : List IS := [(.ret (.call 106 [(.call 105 [(.call 104 [(.var 0), (.var 1), (.var 2)])])]))]
def law_spread_k18_b1 : List IS := [(.set 5 (.bin .add (.bin .add (.var 2) (.cst (.int 1))) (.call 102 [(.var 0), (.var 1), (.call 103 [(.var 0), (.var 1), (.lst [(.cst (.int 3)), (.cst (.int 3)), (.cst (.int 20))])])]))),
  (.iff (.val (.cmp .le (.var 5) (.cst (.int 100)))) [(.set 3 (.bin .add (.var 3) (.tup [(.tup [(.var 2), (.var 5)])]))),
  (.set 2 (.bin .add (.bin .add (.var 5) (.cst (.int 1))) (.call 102 [(.var 0), (.var 1), (.call 103 [(.var 0), (.var 1), (.lst [(.cst (.int 2)), (.cst (.int 2)), (.cst (.int 15))])])])))] [])]
def law_spread_k18 : List IS := [(.par [2, 3] [(.call 102 [(.var 0), (.var 1), (.call 103 [(.var 0), (.var 1), (.lst [(.cst (.int 4)), (.cst (.int 60))])])]), (.tup [])]),
  (.for .rng [(.call 102 [(.var 0), (.var 1), (.cst (.int 7))])] (.nm 4) law_spread_k18_b1),
  (.ret (.var 3))]
def law_window_k01 : List IS := [(.set 2 (.call 102 [(.var 0), (.var 1), (.cst (.int 100))])),
  (.set 3 (.bin .add (.bin .add (.var 2) (.cst (.int 1))) (.call 102 [(.var 0), (.var 1), (.call 103 [(.var 0), (.var 1), (.lst [(.cst (.int 1)), (.cst (.int 8)), (.cst (.int 30)), (.cst (.int 100))])])]))),
  (.ret (.tup [(.var 2), (.bi .min2 [(.cst (.int 100)), (.var 3)])]))]
def law_window_k18 : List IS := [(.set 2 (.call 102 [(.var 0), (.var 1), (.cst (.int 100))])),
  (.ret (.tup [(.var 2), (.bin .add (.bin .add (.var 2) (.cst (.int 1))) (.call 102 [(.var 0), (.var 1), (.bin .sub (.cst (.int 100)) (.var 2))]))]))]
def law_window_k22 : List IS := [(.set 2 (.call 102 [(.var 0), (.var 1), (.cst (.int 100))])),
  (.ret (.tup [(.var 2), (.bin .add (.bin .add (.var 2) (.cst (.int 1))) (.call 102 [(.var 0), (.var 1), (.bi .min2 [(.bin .sub (.cst (.int 100)) (.var 2)), (.call 103 [(.var 0), (.var 1), (.lst [(.cst (.int 8)), (.cst (.int 30)), (.cst (.int 100))])])])]))]))]
def law_rows_k06_b1 : List IS := [(.sub (.var 2) (.call 102 [(.var 0), (.var 1), (.ix (.fz (.lst [(.cst (.int 100)), (.cst (.int 30))])) (.bin .mod (.var 3) (.cst (.int 2))))]) (.call 102 [(.var 0), (.var 1), (.cst (.int 10))]))]
def law_rows_k06 : List IS := [(.set 2 (.dic [])),
  (.for .rng [(.call 102 [(.var 0), (.var 1), (.cst (.int 26))])] (.nm 3) law_rows_k06_b1),
  (.lks (.set 4 (.fz (.comp .keys [(.var 2)] [5] (.nm 5) .yes (.tup [(.var 5), (.ix (.var 2) (.var 5))]))))),
  (.ret (.ptl (.var 4)))]
def law_rows_k22_b1 : List IS := [(.sub (.var 2) (.call 102 [(.var 0), (.var 1), (.cst (.int 100))]) (.call 102 [(.var 0), (.var 1), (.cst (.int 10))]))]
def law_rows_k22 : List IS := [(.set 2 (.dic [])),
  (.for .rng [(.call 102 [(.var 0), (.var 1), (.cst (.int 25))])] (.nm 3) law_rows_k22_b1),
  (.ret (.var 2))]
def law_in : List IS := [(.ret (.bi .tuple [(.fz (.comp .rng [(.var 1), (.var 2)] [3] (.nm 3) (.val (.cmp .kin (.var 3) (.var 0))) (.tup [(.var 3), (.ix (.var 0) (.var 3))])))]))]
def law_change_k06 : List IS := [(.set 2 (.call 102 [(.var 0), (.var 1), (.call 103 [(.var 0), (.var 1), (.fz (.lst [(.cst (.int 100)), (.cst (.int 30))]))])])),
  (.iff (.val (.cmp .eq (.call 102 [(.var 0), (.var 1), (.cst (.int 3))]) (.cst (.int 0)))) [(.ret (.tup [(.var 2), (.cst .non)]))] []),
  (.ret (.tup [(.var 2), (.call 102 [(.var 0), (.var 1), (.cst (.int 10))])]))]
def law_change_k22 : List IS := [(.set 4 (.call 103 [(.var 0), (.var 1), (.fz (.bin .add (.fz (.bi .sortd [(.var 3)])) (.fz (.lst [(.call 102 [(.var 0), (.var 1), (.cst (.int 100))])]))))])),
  (.iff (.val (.cmp .eq (.call 102 [(.var 0), (.var 1), (.cst (.int 3))]) (.cst (.int 0)))) [(.expr (.meth 6 (.var 2) [(.var 4)])),
  (.expr (.bm .dpop (.var 3) [(.var 4), (.cst .non)]))] [(.sub (.var 3) (.var 4) (.call 102 [(.var 0), (.var 1), (.cst (.int 10))])),
  (.expr (.meth 17 (.var 2) [(.var 4), (.ix (.var 3) (.var 4))]))])]
def law_changed : List IS := [(.set 2 (.bi .dict [(.var 0)])),
  (.iff (.val (.isn false (.ix (.var 1) (.cst (.int 1))))) [(.expr (.bm .dpop (.var 2) [(.ix (.var 1) (.cst (.int 0))), (.cst .non)]))] [(.sub (.var 2) (.ix (.var 1) (.cst (.int 0))) (.ix (.var 1) (.cst (.int 1))))]),
  (.ret (.fz (.var 2)))]
def law_do_change : List IS := [(.iff (.val (.isn false (.ix (.var 1) (.cst (.int 1))))) [(.ret (.meth 6 (.var 0) [(.ix (.var 1) (.cst (.int 0)))]))] []),
  (.ret (.meth 17 (.var 0) [(.ix (.var 1) (.cst (.int 0))), (.ix (.var 1) (.cst (.int 1)))]))]
def law_keep_b1 : List IS := [(.sub (.ix (.var 0) (.cst (.str "kept"))) (.var 7) (.ix (.var 0) (.cst (.str "turn"))))]
def law_keep_b2 : List IS := [(.for .rng [(.var 5), (.var 6)] (.nm 7) law_keep_b1)]
def law_keep : List IS := [(.expr (.call 123 [(.var 0), (.var 1)])),
  (.sub (.var 0) (.cst (.str "turn")) (.bin .add (.ix (.var 0) (.cst (.str "turn"))) (.cst (.int 1)))),
  (.set 4 (.call 125 [(.var 0), (.var 2), (.var 3)])),
  (.for .seq [(.bin .add (.var 4) (.tup [(.tup [(.var 2), (.var 3)])]))] (.tp [(.nm 5), (.nm 6)]) law_keep_b2),
  (.expr (.call 126 [(.var 0)])),
  (.ret (.var 4))]
def law_sum : List IS := [(.ret (.bi .sum [(.fz (.comp .seq [(.wk (.meth 11 (.var 0) [(.var 1), (.var 2)]))] [3, 4] (.tp [(.nm 3), (.nm 4)]) .yes (.var 4)))]))]
def law_mixed_b1 : List IS := [(.expr (.bm .append (.var 4) [(.bm .popi (.var 3) [(.call 102 [(.var 0), (.var 1), (.bi .len [(.var 3)])])])]))]
def law_mixed : List IS := [(.par [3, 4] [(.bi .list [(.var 2)]), (.lst [])]),
  (.whil (.val (.var 3)) law_mixed_b1),
  (.ret (.bi .tuple [(.var 4)]))]
def law_mixed_k36_b1 : List IS := [(.expr (.bm .append (.var 4) [(.bm .popi (.var 3) [(.call 102 [(.var 0), (.var 1), (.bi .len [(.var 3)])])])]))]
def law_mixed_k36 : List IS := [(.par [3, 4] [(.bi .list [(.var 2)]), (.lst [])]),
  (.whil (.val (.var 3)) law_mixed_k36_b1),
  (.ret (.ptl (.var 4)))]
def law_lately : List IS := [(.tryx [(.ret (.call 56 [(.var 0), (.var 1)]))] [1] [.ret (.cst .non)])]
end IR

set_option linter.all false
set_option maxRecDepth 100000
/-! the forms of the defs that stand in several laws -/
namespace IR
open DL PySem
def Summer_follows_b1 : List IS := [(.iff (.and (.val (.cmp .eq (.var 6) (.var 5))) (.val (.cmp .nkin (.var 7) (.var 3)))) [(.sub (.var 3) (.var 7) (.bin .add (.ix (.var 3) (.var 5)) (.var 8))),
  (.expr (.bm .append (.var 4) [(.var 7)]))] []),
  (.iff (.and (.val (.cmp .eq (.var 7) (.var 5))) (.val (.cmp .nkin (.var 6) (.var 3)))) [(.sub (.var 3) (.var 6) (.bin .sub (.ix (.var 3) (.var 5)) (.var 8))),
  (.expr (.bm .append (.var 4) [(.var 6)]))] [])]
def Summer_follows_b2 : List IS := [(.set 5 (.bm .pop (.var 4) [])),
  (.for .seq [(.fld 3 2 (.var 0))] (.tp [(.nm 6), (.nm 7), (.nm 8)]) Summer_follows_b1)]
def Summer_follows : List IS := [(.set 3 (.dic [(.var 1), (.cst (.int 0))])),
  (.set 4 (.lst [(.var 1)])),
  (.whil (.val (.var 4)) Summer_follows_b2),
  (.ret (.bm .get (.var 3) [(.var 2), (.cst .non)]))]
def written : List IS := [(.ret (.bm .join (.cst (.str ",")) [(.fz (.comp .seq [(.var 0)] [1, 2] (.tp [(.nm 1), (.nm 2)]) .yes (.fstr [(.var 1), (.cst (.str "-")), (.var 2)])))]))]
def stretch_in : List IS := [(.set 1 (.fz (.bm .split (.var 0) [(.cst (.str "-"))]))),
  (.iff (.val (.cmp .ne (.bi .len [(.var 1)]) (.cst (.int 2)))) [(.rais 2)] []),
  (.ret (.tup [(.call 58 [(.ix (.var 1) (.cst (.int 0)))]), (.call 58 [(.ix (.var 1) (.cst (.int 1)))])]))]
def read : List IS := [(.set 1 (.tup [])),
  (.iff (.val (.cmp .ne (.var 0) (.cst (.str "")))) [(.set 1 (.bi .tuple [(.fz (.compx .seq [(.fz (.bm .split (.var 0) [(.cst (.str ","))]))] [2] (.nm 2) .yes (.call 59 [(.var 2)])))]))] []),
  (.iff (.or (.not (.val (.call 3 [(.var 1)]))) (.val (.cmp .ne (.call 57 [(.var 1)]) (.var 0)))) [(.rais 2)] []),
  (.ret (.var 1))]
def law_new : List IS := [(.ret (.dic [(.cst (.str "room")), (.var 0), (.cst (.str "cost")), (.var 1), (.cst (.str "heard")), (.cst (.int 0)), (.cst (.str "turn")), (.cst (.int 0)), (.cst (.str "kept")), (.dic [])]))]
def law_hear_b1 : List IS := [(.expr (.bm .dpop (.ix (.var 0) (.cst (.str "kept"))) [(.var 3), (.cst .non)]))]
def law_hear : List IS := [(.set 2 (.fz (.comp .seq [(.fz (.cut (.var 1) (some (.ix (.var 0) (.cst (.str "heard")))) none))] [3, 4] (.tp [(.nm 3), (.nm 4)]) (.val (.cmp .kin (.var 3) (.ix (.var 0) (.cst (.str "kept"))))) (.var 3)))),
  (.for .seq [(.var 2)] (.nm 3) law_hear_b1),
  (.sub (.var 0) (.cst (.str "heard")) (.bi .len [(.var 1)])),
  (.ret (.call 106 [(.fz (.comp .rng [(.cst (.int 100))] [3] (.nm 3) .yes (.cmp .inn (.var 3) (.var 2))))]))]
def law_known : List IS := [(.ret (.call 106 [(.fz (.comp .rng [(.cst (.int 100))] [1] (.nm 1) .yes (.cmp .kin (.var 1) (.ix (.var 0) (.cst (.str "kept"))))))]))]
def law_plan_b1 : List IS := [(.iff (.and (.val (.var 3)) (.val (.cmp .lt (.bin .sub (.var 4) (.ix (.ix (.var 3) (.neg (.cst (.int 1)))) (.cst (.int 1)))) (.ix (.var 0) (.cst (.str "cost")))))) [(.set 3 (.bin .add (.cut (.var 3) none (some (.neg (.cst (.int 1))))) (.tup [(.tup [(.ix (.ix (.var 3) (.neg (.cst (.int 1)))) (.cst (.int 0))), (.var 5)])])))] [(.set 3 (.bin .add (.var 3) (.tup [(.tup [(.var 4), (.var 5)])])))])]
def law_plan : List IS := [(.set 3 (.tup [])),
  (.for .seq [(.call 106 [(.fz (.comp .rng [(.cst (.int 100))] [6] (.nm 6) .yes (.andv (.chn .le .lt (.var 1) (.var 6) (.var 2)) (.cmp .nkin (.var 6) (.ix (.var 0) (.cst (.str "kept")))))))])] (.tp [(.nm 4), (.nm 5)]) law_plan_b1),
  (.ret (.var 3))]
def law_shrink_b1 : List IS := [(.expr (.bm .dpop (.ix (.var 0) (.cst (.str "kept"))) [(.var 3)]))]
def law_shrink : List IS := [(.set 1 (.fz (.bi .sorted [(.fz (.lk (.comp .keys [(.ix (.var 0) (.cst (.str "kept")))] [3] (.nm 3) .yes (.tup [(.ix (.ix (.var 0) (.cst (.str "kept"))) (.var 3)), (.var 3)]))))]))),
  (.for .seq [(.fz (.cut (.var 1) none (some (.bi .max2 [(.cst (.int 0)), (.bin .sub (.bi .len [(.var 1)]) (.ix (.var 0) (.cst (.str "room"))))]))))] (.tp [(.nm 2), (.nm 3)]) law_shrink_b1)]
end IR

set_option Elab.async false
set_option linter.all false
set_option maxRecDepth 100000
/-! the meaning, row by row, for rewriting -/
namespace DL
open PySem PySem.Spec PyProof.Rows L2
section
variable {c : CallT} {G : Gm} {δ r : DSt} {A : AH} {Q : QE} {E : XQ} {QT : Bool → AH → Prop} {QA : List D → AH → Prop} {QO : Option Int → AH → Prop} {P : Pst} {x y d : D} {a b e o : IE} {es : List IE} {s : IS} {ss body bs : List IS} {t u : IT} {tg : Tg}
def endP (Q : QE) (E : XQ) : Pst := ⟨fun _ A' => ∃ B, Sub B A' ∧ Q .non B, fun v A' => ∃ B, Sub B A' ∧ Q v B, fun _ _ => False, fun x _ A' => ∃ B, Sub B A' ∧ E x B⟩
theorem callN_mk {n f : Nat} {fd : FnD} {ds : List D} (h : G.fn f = some fd) (hl : ds.length = fd.np) (k : wpSs (callN G n) G fd.body (endP Q E) (startD fd.ns ds) A) : callN G (n + 1) f ds A Q E := by
  unfold callN
  rw [h]
  exact ⟨hl, k⟩
theorem end_rt {v : D} : (endP Q E).rt v A = ∃ B, Sub B A ∧ Q v B := (rfl)
theorem end_nx : (endP Q E).nx δ A = ∃ B, Sub B A ∧ Q .non B := (rfl)
theorem end_ex {i : Nat} : (endP Q E).ex i δ A = ∃ B, Sub B A ∧ E i B := (rfl)
theorem ret_at {v : D} {B : AH} (s : Sub B A) (q : Q v B) : ∃ B, Sub B A ∧ Q v B := ⟨B, s, q⟩
theorem ret_here {v : D} (q : Q v A) : ∃ B, Sub B A ∧ Q v B := ⟨A, Sub.refl A, q⟩

theorem wq_var0 : wpE c G (.var 0) (some d :: r) A Q E = Q d A := (rfl)
theorem wq_var1 {x0 : Option D} : wpE c G (.var 1) (x0 :: some d :: r) A Q E = Q d A := (rfl)
theorem wq_var2 {x0 x1 : Option D} : wpE c G (.var 2) (x0 :: x1 :: some d :: r) A Q E = Q d A := (rfl)
theorem wq_var3 {x0 x1 x2 : Option D} : wpE c G (.var 3) (x0 :: x1 :: x2 :: some d :: r) A Q E = Q d A := (rfl)
theorem wq_var4 {x0 x1 x2 x3 : Option D} : wpE c G (.var 4) (x0 :: x1 :: x2 :: x3 :: some d :: r) A Q E = Q d A := (rfl)
theorem wq_var5 {x0 x1 x2 x3 x4 : Option D} : wpE c G (.var 5) (x0 :: x1 :: x2 :: x3 :: x4 :: some d :: r) A Q E = Q d A := (rfl)
theorem wq_var6 {x0 x1 x2 x3 x4 x5 : Option D} : wpE c G (.var 6) (x0 :: x1 :: x2 :: x3 :: x4 :: x5 :: some d :: r) A Q E = Q d A := (rfl)
theorem wq_var7 {x0 x1 x2 x3 x4 x5 x6 : Option D} : wpE c G (.var 7) (x0 :: x1 :: x2 :: x3 :: x4 :: x5 :: x6 :: some d :: r) A Q E = Q d A := (rfl)
theorem wq_var8 {x0 x1 x2 x3 x4 x5 x6 x7 : Option D} : wpE c G (.var 8) (x0 :: x1 :: x2 :: x3 :: x4 :: x5 :: x6 :: x7 :: some d :: r) A Q E = Q d A := (rfl)
theorem wq_var9 {x0 x1 x2 x3 x4 x5 x6 x7 x8 : Option D} : wpE c G (.var 9) (x0 :: x1 :: x2 :: x3 :: x4 :: x5 :: x6 :: x7 :: x8 :: some d :: r) A Q E = Q d A := (rfl)
theorem wq_var10 {x0 x1 x2 x3 x4 x5 x6 x7 x8 x9 : Option D} : wpE c G (.var 10) (x0 :: x1 :: x2 :: x3 :: x4 :: x5 :: x6 :: x7 :: x8 :: x9 :: some d :: r) A Q E = Q d A := (rfl)
theorem wq_var11 {x0 x1 x2 x3 x4 x5 x6 x7 x8 x9 x10 : Option D} : wpE c G (.var 11) (x0 :: x1 :: x2 :: x3 :: x4 :: x5 :: x6 :: x7 :: x8 :: x9 :: x10 :: some d :: r) A Q E = Q d A := (rfl)
theorem wq_var12 {x0 x1 x2 x3 x4 x5 x6 x7 x8 x9 x10 x11 : Option D} : wpE c G (.var 12) (x0 :: x1 :: x2 :: x3 :: x4 :: x5 :: x6 :: x7 :: x8 :: x9 :: x10 :: x11 :: some d :: r) A Q E = Q d A := (rfl)
theorem wq_var13 {x0 x1 x2 x3 x4 x5 x6 x7 x8 x9 x10 x11 x12 : Option D} : wpE c G (.var 13) (x0 :: x1 :: x2 :: x3 :: x4 :: x5 :: x6 :: x7 :: x8 :: x9 :: x10 :: x11 :: x12 :: some d :: r) A Q E = Q d A := (rfl)
theorem wq_var14 {x0 x1 x2 x3 x4 x5 x6 x7 x8 x9 x10 x11 x12 x13 : Option D} : wpE c G (.var 14) (x0 :: x1 :: x2 :: x3 :: x4 :: x5 :: x6 :: x7 :: x8 :: x9 :: x10 :: x11 :: x12 :: x13 :: some d :: r) A Q E = Q d A := (rfl)
theorem wq_var15 {x0 x1 x2 x3 x4 x5 x6 x7 x8 x9 x10 x11 x12 x13 x14 : Option D} : wpE c G (.var 15) (x0 :: x1 :: x2 :: x3 :: x4 :: x5 :: x6 :: x7 :: x8 :: x9 :: x10 :: x11 :: x12 :: x13 :: x14 :: some d :: r) A Q E = Q d A := (rfl)
theorem wq_var16 {x0 x1 x2 x3 x4 x5 x6 x7 x8 x9 x10 x11 x12 x13 x14 x15 : Option D} : wpE c G (.var 16) (x0 :: x1 :: x2 :: x3 :: x4 :: x5 :: x6 :: x7 :: x8 :: x9 :: x10 :: x11 :: x12 :: x13 :: x14 :: x15 :: some d :: r) A Q E = Q d A := (rfl)
theorem wq_var17 {x0 x1 x2 x3 x4 x5 x6 x7 x8 x9 x10 x11 x12 x13 x14 x15 x16 : Option D} : wpE c G (.var 17) (x0 :: x1 :: x2 :: x3 :: x4 :: x5 :: x6 :: x7 :: x8 :: x9 :: x10 :: x11 :: x12 :: x13 :: x14 :: x15 :: x16 :: some d :: r) A Q E = Q d A := (rfl)
theorem wq_var18 {x0 x1 x2 x3 x4 x5 x6 x7 x8 x9 x10 x11 x12 x13 x14 x15 x16 x17 : Option D} : wpE c G (.var 18) (x0 :: x1 :: x2 :: x3 :: x4 :: x5 :: x6 :: x7 :: x8 :: x9 :: x10 :: x11 :: x12 :: x13 :: x14 :: x15 :: x16 :: x17 :: some d :: r) A Q E = Q d A := (rfl)
theorem wq_var19 {x0 x1 x2 x3 x4 x5 x6 x7 x8 x9 x10 x11 x12 x13 x14 x15 x16 x17 x18 : Option D} : wpE c G (.var 19) (x0 :: x1 :: x2 :: x3 :: x4 :: x5 :: x6 :: x7 :: x8 :: x9 :: x10 :: x11 :: x12 :: x13 :: x14 :: x15 :: x16 :: x17 :: x18 :: some d :: r) A Q E = Q d A := (rfl)
theorem wq_var20 {x0 x1 x2 x3 x4 x5 x6 x7 x8 x9 x10 x11 x12 x13 x14 x15 x16 x17 x18 x19 : Option D} : wpE c G (.var 20) (x0 :: x1 :: x2 :: x3 :: x4 :: x5 :: x6 :: x7 :: x8 :: x9 :: x10 :: x11 :: x12 :: x13 :: x14 :: x15 :: x16 :: x17 :: x18 :: x19 :: some d :: r) A Q E = Q d A := (rfl)
theorem wq_var21 {x0 x1 x2 x3 x4 x5 x6 x7 x8 x9 x10 x11 x12 x13 x14 x15 x16 x17 x18 x19 x20 : Option D} : wpE c G (.var 21) (x0 :: x1 :: x2 :: x3 :: x4 :: x5 :: x6 :: x7 :: x8 :: x9 :: x10 :: x11 :: x12 :: x13 :: x14 :: x15 :: x16 :: x17 :: x18 :: x19 :: x20 :: some d :: r) A Q E = Q d A := (rfl)
theorem wq_var22 {x0 x1 x2 x3 x4 x5 x6 x7 x8 x9 x10 x11 x12 x13 x14 x15 x16 x17 x18 x19 x20 x21 : Option D} : wpE c G (.var 22) (x0 :: x1 :: x2 :: x3 :: x4 :: x5 :: x6 :: x7 :: x8 :: x9 :: x10 :: x11 :: x12 :: x13 :: x14 :: x15 :: x16 :: x17 :: x18 :: x19 :: x20 :: x21 :: some d :: r) A Q E = Q d A := (rfl)
theorem wq_var23 {x0 x1 x2 x3 x4 x5 x6 x7 x8 x9 x10 x11 x12 x13 x14 x15 x16 x17 x18 x19 x20 x21 x22 : Option D} : wpE c G (.var 23) (x0 :: x1 :: x2 :: x3 :: x4 :: x5 :: x6 :: x7 :: x8 :: x9 :: x10 :: x11 :: x12 :: x13 :: x14 :: x15 :: x16 :: x17 :: x18 :: x19 :: x20 :: x21 :: x22 :: some d :: r) A Q E = Q d A := (rfl)

theorem wq_cst : wpE c G (.cst d) δ A Q E = Q d A := (rfl)
theorem wq_tup : wpE c G (.tup es) δ A Q E = wpEs c G es δ A (fun ds A1 => ds.length ≤ sizeLine ∧ Q (.tup ds) A1) E := (rfl)
theorem wq_lst : wpE c G (.lst es) δ A Q E = wpEs c G es δ A (fun ds A1 => ds.length ≤ sizeLine ∧ newL A1 ds Q) E := (rfl)
theorem wq_bin {k : BO} : wpE c G (.bin k a b) δ A Q E = wpE c G a δ A (fun x A1 => wpE c G b δ A1 (fun y A2 => dBin k x y A2 Q) E) E := (rfl)
theorem wq_neg : wpE c G (.neg (.cst (.int i))) δ A Q E = Q (.int (-i)) A := (rfl)
theorem wq_cmp {k : CO} : wpE c G (.cmp k a b) δ A Q E = wpE c G a δ A (fun x A1 => wpE c G b δ A1 (fun y A2 => dCmp k x y A2 Q) E) E := (rfl)
theorem wq_chn {k l : CO} {z : IE} : wpE c G (.chn k l a b z) δ A Q E = wpE c G a δ A (fun x A1 => wpE c G b δ A1 (fun y A2 => dCmp k x y A2 (bTst fun m A3 => if m = true then wpE c G z δ A3 (fun z A4 => dCmp l y z A4 Q) E else Q (.bl false) A3)) E) E := (rfl)
theorem wq_isn {neg : Bool} : wpE c G (.isn neg a) δ A Q E = wpE c G a δ A (fun x A1 => Q (.bl (if neg = true then !isNonD x else isNonD x)) A1) E := (rfl)
theorem wq_isb {neg : Bool} : wpE c G (.isb neg a b) δ A Q E = wpE c G a δ A (fun x A1 => wpE c G b δ A1 (fun y A2 => match x, y with | .bl k, .bl l => Q (.bl (if neg = true then !decide (k = l) else decide (k = l))) A2 | _, _ => False) E) E := (rfl)
theorem wq_notv : wpE c G (.notv a) δ A Q E = wpE c G a δ A (fun x A1 => dTru x A1 fun k A2 => Q (.bl (!k)) A2) E := (rfl)
theorem wq_andv : wpE c G (.andv a b) δ A Q E = wpE c G a δ A (bTst fun k A1 => if k = true then wpE c G b δ A1 Q E else Q (.bl false) A1) E := (rfl)
theorem wq_orv : wpE c G (.orv a b) δ A Q E = wpE c G a δ A (bTst fun k A1 => if k = true then Q (.bl true) A1 else wpE c G b δ A1 Q E) E := (rfl)
theorem wq_ite : wpE c G (.ite t a b) δ A Q E = wpT c G t δ A (fun k A1 => if k = true then wpE c G a δ A1 Q E else wpE c G b δ A1 Q E) E := (rfl)
theorem wq_call {f : Nat} : wpE c G (.call f es) δ A Q E = wpEs c G es δ A (fun ds A1 => c f ds A1 Q E) E := (rfl)
theorem wq_bi {k : BI} : wpE c G (.bi k es) δ A Q E = wpEs c G es δ A (fun ds A1 => dBi k ds A1 Q) E := (rfl)
theorem wq_isi {k : TyK} : wpE c G (.isi k a) δ A Q E = wpE c G a δ A (fun x A1 => match isD k A1 x with | some b => Q (.bl b) A1 | none => False) E := (rfl)
theorem wq_rgl {k : Bool} : wpE c G (.rgl k es) δ A Q E = wpEs c G es δ A (fun ds A1 => dRgl k ds A1 Q) E := (rfl)
theorem wq_ix : wpE c G (.ix a b) δ A Q E = wpE c G a δ A (fun x A1 => wpE c G b δ A1 (fun y A2 => dIx x y A2 Q) E) E := (rfl)
theorem wq_cut {lo hi : Option IE} : wpE c G (.cut a lo hi) δ A Q E = wpE c G a δ A (fun x A1 => wpO c G lo δ A1 (fun l A2 => wpO c G hi δ A2 (fun h A3 => dCut x l h A3 Q) E) E) E := (rfl)
theorem wq_rev : wpE c G (.rev a) δ A Q E = wpE c G a δ A (fun x A1 => dRev x A1 Q) E := (rfl)
theorem wq_comp {k : SrcK} {vs : List Nat} : wpE c G (.comp k es vs tg t e) δ A Q E = wpEs c G es δ A (fun ds A1 => dSrc k ds A1 fun xs g => xs.length ≤ sizeLine ∧ dComp tg g (wpT c G t) (wpE c G e) (wipeD δ vs) xs [] A1 Q) E := (rfl)
theorem wq_bm {m : BM} : wpE c G (.bm m o es) δ A Q E = wpE c G o δ A (fun x A1 => isT (tyB m) A1 x ∧ wpEs c G es δ A1 (fun ds A2 => dBm m x ds A2 Q) E) E := (rfl)
theorem wq_nil : wpEs c G [] δ A QA E = QA [] A := (rfl)
theorem wq_cons : wpEs c G (e :: es) δ A QA E = wpE c G e δ A (fun d A1 => wpEs c G es δ A1 (fun ds A2 => QA (d :: ds) A2) E) E := (rfl)
theorem wq_on : wpO c G none δ A QO E = QO none A := (rfl)
theorem wq_os : wpO c G (some e) δ A QO E = wpE c G e δ A (fun d A1 => match d with | .int i => QO (some i) A1 | _ => False) E := (rfl)
theorem wq_val : wpT c G (.val e) δ A QT E = wpE c G e δ A (fun x A1 => dTru x A1 QT) E := (rfl)
theorem wq_and : wpT c G (.and t u) δ A QT E = wpT c G t δ A (fun k A1 => if k = true then wpT c G u δ A1 QT E else QT false A1) E := (rfl)
theorem wq_or : wpT c G (.or t u) δ A QT E = wpT c G t δ A (fun k A1 => if k = true then QT true A1 else wpT c G u δ A1 QT E) E := (rfl)
theorem wq_not : wpT c G (.not t) δ A QT E = wpT c G t δ A (fun k A1 => QT (!k) A1) E := (rfl)
theorem wq_yes : wpT c G .yes δ A QT E = QT true A := (rfl)
theorem wq_snil : wpSs c G [] P δ A = P.nx δ A := (rfl)
theorem wq_scons : wpSs c G (s :: ss) P δ A = wpS c G s ⟨fun δ' A' => wpSs c G ss P δ' A', P.rt, P.ct, P.ex⟩ δ A := (rfl)
theorem wq_set {i : Nat} : wpS c G (.set i e) P δ A = wpE c G e δ A (fun x A1 => P.nx (δ.set i (some x)) A1) (fun x A' => P.ex x δ A') := (rfl)
theorem wq_tset : wpS c G (.tset tg e) P δ A = wpE c G e δ A (fun x A1 => gAsg tg x δ A1 fun δ' => P.nx δ' A1) (fun x A' => P.ex x δ A') := (rfl)
theorem wq_par {is : List Nat} : wpS c G (.par is es) P δ A = wpEs c G es δ A (fun ds A1 => ds.length = is.length ∧ P.nx (setAll is ds δ) A1) (fun x A' => P.ex x δ A') := (rfl)
theorem wq_sub : wpS c G (.sub o b e) P δ A = wpE c G e δ A (fun v A1 => wpE c G o δ A1 (fun x A2 => wpE c G b δ A2 (fun y A3 => dSub x y v A3 fun A4 => P.nx δ A4) (fun x A' => P.ex x δ A')) (fun x A' => P.ex x δ A')) (fun x A' => P.ex x δ A') := (rfl)
theorem wq_expr : wpS c G (.expr e) P δ A = wpE c G e δ A (fun _ A1 => P.nx δ A1) (fun x A' => P.ex x δ A') := (rfl)
theorem wq_if : wpS c G (.iff t body bs) P δ A = wpT c G t δ A (fun k A1 => if k = true then wpSs c G body P δ A1 else wpSs c G bs P δ A1) (fun x A' => P.ex x δ A') := (rfl)
theorem wq_for {k : SrcK} : wpS c G (.for k es tg body) P δ A = wpEs c G es δ A (fun ds A1 => dSrc k ds A1 fun xs g => dFor tg g (wpSs c G body) xs P δ A1) (fun x A' => P.ex x δ A') := (rfl)
theorem wq_whil : wpS c G (.whil t body) P δ A = ∃ n, dWhile (wpT c G t) (wpSs c G body) n P δ A := (rfl)
theorem wq_ret : wpS c G (.ret e) P δ A = wpE c G e δ A P.rt (fun x A' => P.ex x δ A') := (rfl)
theorem wq_pass : wpS c G .pass P δ A = P.nx δ A := (rfl)
theorem wq_cont : wpS c G .cont P δ A = P.ct δ A := (rfl)
end
section
variable {A : AH} {Q : QE} {QT : Bool → AH → Prop} {i j : Int} {a b : Addr} {xs ys : List D} {x d : D} {k l : Bool} {δ : DSt} {QG : DSt → Prop} {Qs : List D → (AH → Prop) → Prop} {z w : Str}
theorem seq_tup : seqD A (.tup xs) = some xs := (rfl)
theorem seq_rol : seqD A (.rol xs) = some xs := (rfl)
theorem seq_ref (h : A a = some (.lst xs)) : seqD A (.ref a) = some xs := by simp only [seqD, h]
theorem x_addI : dBin .add (.int i) (.int j) A Q = Q (.int (i + j)) A := (rfl)
theorem x_addT : dBin .add (.tup xs) (.tup ys) A Q = (xs.length + ys.length ≤ sizeLine ∧ Q (.tup (xs ++ ys)) A) := (rfl)
theorem x_addS : dBin .add (.str z) (.str w) A Q = (z.length + w.length ≤ sizeLine ∧ Q (.str (z ++ w)) A) := (rfl)
theorem x_sub : dBin .sub (.int i) (.int j) A Q = Q (.int (i - j)) A := (rfl)
theorem x_mul : dBin .mul (.int i) (.int j) A Q = (CMul i j ∧ Q (.int (i * j)) A) := (rfl)
theorem x_fdiv : dBin .fdiv (.int i) (.int j) A Q = (CDiv i j ∧ Q (.int (i / j)) A) := (rfl)
theorem x_mod : dBin .mod (.int i) (.int j) A Q = (0 < j ∧ Q (.int (i % j)) A) := (rfl)
theorem x_lt : dCmp .lt (.int i) (.int j) A Q = Q (.bl (decide (i < j))) A := (rfl)
theorem x_le : dCmp .le (.int i) (.int j) A Q = Q (.bl (decide (i ≤ j))) A := (rfl)
theorem x_gt : dCmp .gt (.int i) (.int j) A Q = Q (.bl (decide (j < i))) A := (rfl)
theorem x_ge : dCmp .ge (.int i) (.int j) A Q = Q (.bl (decide (j ≤ i))) A := (rfl)
theorem x_eqI : dCmp .eq (.int i) (.int j) A Q = Q (.bl (decide (i = j))) A := by
  show Q (.bl (i == j)) A = _
  rw [Bool.beq_eq_decide_eq]
theorem x_neI : dCmp .ne (.int i) (.int j) A Q = Q (.bl (!decide (i = j))) A := by
  show Q (.bl (!(i == j))) A = _
  rw [Bool.beq_eq_decide_eq]
theorem x_bTst : bTst QT (.bl k) A = QT k A := (rfl)
theorem x_truB : dTru (.bl k) A QT = QT k A := (rfl)
theorem x_truN : dTru .non A QT = QT false A := (rfl)
theorem x_truI : dTru (.int i) A QT = QT (i != 0) A := (rfl)
theorem x_truT : dTru (.tup xs) A QT = QT (!xs.isEmpty) A := (rfl)
theorem x_truR : dTru (.rol xs) A QT = QT (!xs.isEmpty) A := (rfl)
theorem x_truL (h : A a = some (.lst xs)) : dTru (.ref a) A QT = QT (!xs.isEmpty) A := by simp only [dTru, h]
theorem x_lenT : dBi .len [.tup xs] A Q = Q (.int xs.length) A := (rfl)
theorem x_lenR : dBi .len [.rol xs] A Q = Q (.int xs.length) A := (rfl)
theorem x_lenL (h : A a = some (.lst xs)) : dBi .len [.ref a] A Q = Q (.int xs.length) A := by simp only [dBi, seq_ref h]
theorem x_tupT : dBi .tuple [.tup xs] A Q = Q (.tup xs) A := (rfl)
theorem x_tupL (h : A a = some (.lst xs)) : dBi .tuple [.ref a] A Q = Q (.tup xs) A := by simp only [dBi, seq_ref h]
theorem x_lstT : dBi .list [.tup xs] A Q = newL A xs Q := (rfl)
theorem x_min2 : dBi .min2 [.int i, .int j] A Q = Q (.int (if j < i then j else i)) A := (rfl)
theorem x_max2 : dBi .max2 [.int i, .int j] A Q = Q (.int (if j > i then j else i)) A := (rfl)
theorem x_intB : dBi .int1 [.bl k] A Q = Q (.int (if k then 1 else 0)) A := (rfl)
theorem x_intI : dBi .int1 [.int i] A Q = Q (.int i) A := (rfl)
theorem alls_ints (ns : List Int) : alls int1 (ns.map .int) = some ns := by
  induction ns with
  | nil => rfl
  | cons n r ih => simp only [List.map_cons, alls, int1, ih]
theorem alls_bls (ns : List Bool) : alls bl1 (ns.map .bl) = some ns := by
  induction ns with
  | nil => rfl
  | cons n r ih => simp only [List.map_cons, alls, bl1, ih]
theorem alls_prs (ns : List (Int × Int)) : alls pr1 (ns.map prD) = some ns := by
  induction ns with
  | nil => rfl
  | cons n r ih => simp only [List.map_cons, alls, prD, pr1, ih] <;> rfl
theorem sort_prs {ps : List (Int × Int)} (h : seqD A x = some (ps.map prD)) : dBi .sorted [x] A Q = newL A ((sortP ps).map prD) Q := by
  show dSort x A Q = _
  unfold dSort
  rw [h]
  cases ps with
  | nil => simp [alls, sortI, sortP]
  | cons p r =>
    simp only [List.map_cons]
    rw [show alls int1 (prD p :: List.map prD r) = none from rfl]
    simp only
    rw [← List.map_cons, alls_prs]
theorem x_ixT {d : D} (h : L2.atI xs i = some d) : dIx (.tup xs) (.int i) A Q = Q d A := by simp only [dIx, seq_tup, h]
theorem x_ixR {d : D} (h : L2.atI xs i = some d) : dIx (.rol xs) (.int i) A Q = Q d A := by simp only [dIx, seq_rol, h]
theorem x_ixL {d : D} (h : A a = some (.lst xs)) (h' : L2.atI xs i = some d) : dIx (.ref a) (.int i) A Q = Q d A := by simp only [dIx, seq_ref h, h']
theorem x_cutT {lo hi : Option Int} : dCut (.tup xs) lo hi A Q = Q (.tup (cutL xs lo hi)) A := (rfl)
theorem x_cutL {lo hi : Option Int} (h : A a = some (.lst xs)) : dCut (.ref a) lo hi A Q = newL A (cutL xs lo hi) Q := by simp only [dCut, h]
theorem x_revT : dRev (.tup xs) A Q = Q (.tup xs.reverse) A := (rfl)
theorem x_app (h : A a = some (.lst xs)) : dBm .append (.ref a) [d] A Q = (xs.length < sizeLine ∧ Q .non (up A a (.lst (xs ++ [d])))) := by simp only [dBm, h]
theorem x_ext (h : A a = some (.lst xs)) (h' : A b = some (.lst ys)) : dBm .extend (.ref a) [.ref b] A Q = (xs.length + ys.length ≤ sizeLine ∧ Q .non (up A a (.lst (xs ++ ys)))) := by simp only [dBm, h, h']
theorem x_isL (h : A a = some (.lst xs)) : isT .list A (.ref a) = True := by simp only [isT, h]
theorem ty_app : tyB .append = .list := (rfl)
theorem ty_ext : tyB .extend = .list := (rfl)
theorem ty_pop : tyB .pop = .list := (rfl)
theorem ty_popi : tyB .popi = .list := (rfl)
theorem x_srcT : dSrc .seq [.tup xs] A Qs = Qs xs (fun _ => True) := (rfl)
theorem x_srcR : dSrc .seq [.rol xs] A Qs = Qs xs (fun _ => True) := (rfl)
theorem x_srcL (h : A a = some (.lst xs)) : dSrc .seq [.ref a] A Qs = Qs xs (fun A' => A' a = some (.lst xs)) := by simp only [dSrc, h]
theorem x_rng1 : dSrc .rng [.int j] A Qs = ((-(2 ^ 62) ≤ (0 : Int) ∧ (0 : Int) < 2 ^ 62 ∧ -(2 ^ 62) ≤ j ∧ j < 2 ^ 62) ∧ Qs (rgD 0 j) (fun _ => True)) := (rfl)
theorem x_rng2 : dSrc .rng [.int i, .int j] A Qs = ((-(2 ^ 62) ≤ i ∧ i < 2 ^ 62 ∧ -(2 ^ 62) ≤ j ∧ j < 2 ^ 62) ∧ Qs (rgD i j) (fun _ => True)) := (rfl)
theorem x_zip : dSrc .zip [.tup xs, .tup ys] A Qs = Qs (List.zipWith (fun x y => .tup [x, y]) xs ys) (fun _ => True) := (rfl)
theorem x_rgl2 {t : Bool} : dRgl t [.int i, .int j] A Q = (RgOk i j ∧ (if t = true then Q (.tup (rgD i j)) A else newL A (rgD i j) Q)) := (rfl)
theorem x_rgl1 {t : Bool} : dRgl t [.int j] A Q = (RgOk 0 j ∧ (if t = true then Q (.tup (rgD 0 j)) A else newL A (rgD 0 j) Q)) := (rfl)
theorem g_nm {m : Nat} : gAsg (.nm m) x δ A QG = QG (δ.set m (some x)) := by unfold gAsg; rfl
theorem g_tp {ts : List Tg} : gAsg (.tp ts) (.tup xs) δ A QG = gAsgs ts xs δ A QG := by unfold gAsg; rfl
theorem g_cons {t : Tg} {ts : List Tg} : gAsgs (t :: ts) (x :: xs) δ A QG = gAsg t x δ A fun δ' => gAsgs ts xs δ' A QG := by rw [gAsgs]
theorem g_nil : gAsgs [] [] δ A QG = QG δ := by unfold gAsgs; simp
theorem for_cons {tg : Tg} {g : AH → Prop} {body : WS} {P : Pst} : dFor tg g body (x :: xs) P δ A = (g A ∧ gAsg tg x δ A fun δ' => body ⟨fun δ2 A2 => dFor tg g body xs P δ2 A2, P.rt, fun δ2 A2 => dFor tg g body xs P δ2 A2, P.ex⟩ δ' A) := (rfl)
theorem up_free {p q : Addr} {o : AO} : up A p o q = none ↔ q ≠ p ∧ A q = none := by
  unfold up
  by_cases h : q = p
  · simp [h]
  · simp [h]
theorem len2_ok : (2 : Nat) ≤ sizeLine := by decide
theorem len0_ok : (0 : Nat) ≤ sizeLine := by decide
end
end DL

set_option Elab.async false
set_option linter.all false
set_option maxRecDepth 100000
set_option maxHeartbeats 1000000
/-! a law whose own def wants to know that nothing is being shown: it is run at the top alone -/
namespace DL
open PySem PySem.Spec PyProof.Rows L2
/-- the law's def, called with the script at the top -/
def TopOk (P : Program) (w : World) (K : PySem.W.Frag) (mg : Str → Option Value) (base : Heap) (fa : Addr) (fd : FuncData) (x : Str) : Prop :=
  ∀ (s : Shared) (H : Hp) (a : Addr) (ns : List Int), Env0 P w K mg base callerA [] s H → BindsTo s fd ⟨[.ref a], []⟩ [(x, .ref a)] → SqR K (fun _ => none) (fun _ => False) H a (ns.map V.int) → ns.length ≤ 63 →
    codeAny (model P w) callerA (.call (.ref fa) ⟨[.ref a], []⟩) (CR (L2.CX P w) [] P w H s (fun v _ => v = .bl true) (fun _ _ _ => False)) s
/-- the law's def: its text, shown where nothing is being shown -/
structure DefT (L : Lk) (G : Gm) (P : Program) (w : World) (mg : Str → Option Value) (f : Addr) (nl : Nat) (body : List IS) (fdt : FuncData) (p : Str) : Prop where
  ex : ∃ (x qual : Str) (st : Stmt) (N : List Str), Fun L.K x qual st f fdt ∧ FnScope N [p] (defScope st) ∧ N.length = nl ∧
    ∀ (n : Nat) (base : Heap) (cdv : Value) (A : Around) (outer : List Env) (s : Shared) (H : Hp) (E : XK), (cxOf (L2.CX P w) P w L.K mg base N qual (defScope st) f cdv A outer s H E).A.guards = some [] →
      DSs L G n (cxOf (L2.CX P w) P w L.K mg base N qual (defScope st) f cdv A outer s H E) (defBody st) body
end DL

set_option Elab.async false
set_option linter.all false
set_option maxRecDepth 100000
/-! the program's defs: what they come to -/
namespace DP
open DL PySem
open L2 hiding prD
local macro_rules | `(tactic| walk_at "wp") => `(tactic| try simp only [startD, List.map_cons, List.map_nil, List.length_cons, List.length_nil, Nat.zero_add, Nat.reduceAdd, Nat.reduceSub, List.replicate_succ, List.replicate_zero, List.cons_append, List.nil_append, List.set_cons_zero, List.set_cons_succ, setAll, wipeD,
  wq_var0, wq_var1, wq_var2, wq_var3, wq_var4, wq_var5, wq_var6, wq_var7, wq_var8, wq_var9, wq_var10, wq_var11, wq_var12, wq_var13, wq_var14, wq_var15, wq_cst, wq_tup, wq_lst, wq_bin, wq_neg, wq_cmp, wq_chn, wq_isn, wq_isb, wq_notv, wq_andv, wq_orv, wq_ite, wq_call, wq_bi, wq_isi, wq_rgl, wq_ix, wq_cut, wq_rev, wq_comp, wq_bm, wq_nil, wq_cons, wq_on, wq_os, wq_val, wq_and, wq_or, wq_not, wq_yes, wq_snil, wq_scons, wq_set, wq_tset, wq_par, wq_sub, wq_expr, wq_if, wq_for, wq_whil, wq_ret, wq_pass, wq_cont, end_rt, end_nx,
  x_addI, x_addT, x_addS, x_sub, x_mul, x_fdiv, x_mod, x_lt, x_le, x_gt, x_ge, x_eqI, x_neI, x_bTst, x_truB, x_truN, x_truI, x_truT, x_truR, x_lenT, x_lenR, x_tupT, x_lstT, x_min2, x_max2, x_intB, x_intI, x_cutT, x_revT, x_srcT, x_srcR, x_rng1, x_rng2, x_zip, x_rgl1, x_rgl2, g_nm, g_tp, g_cons, g_nil, ty_app, ty_ext, ty_pop, ty_popi, if_true, if_false, Bool.false_eq_true, Bool.true_eq_false, Bool.not_true, Bool.not_false, len2_ok, len0_ok, true_and, isNonD])
abbrev prs (l : List (Int × Int)) : List D := l.map prD
abbrev spd (l : List (Int × Int)) : D := .tup (l.map prD)
theorem prD_eq (p : Int × Int) : prD p = .tup [.int p.1, .int p.2] := rfl
theorem atI0 {α : Type} (x : α) (r : List α) : L2.atI (x :: r) 0 = some x := atI_nat (j := 0) rfl
theorem atI1 {α : Type} (x y : α) (r : List α) : L2.atI (x :: y :: r) 1 = some y := atI_nat (j := 1) rfl
theorem ixN_last (n : Nat) : ixN (n + 1) (-1) = some n := by
  unfold ixN
  rw [if_neg (by decide), if_pos (by omega)]
  congr 1
  omega
theorem set_last {α : Type} (l : List α) (a b : α) : (l ++ [a]).set l.length b = l ++ [b] := by
  rw [List.set_append_right _ _ (Nat.le_refl _), Nat.sub_self]; rfl
theorem dSub_last {A : AH} {a : Addr} {l : List D} {x v : D} {Q : AH → Prop} (h : A a = some (.lst (l ++ [x]))) : dSub (.ref a) (.int (-1)) v A Q = Q (up A a (.lst (l ++ [v]))) := by
  simp only [dSub, h, List.length_append, List.length_singleton, ixN_last, set_last]
theorem isEmpty_snoc {α : Type} (l : List α) (a : α) : (l ++ [a]).isEmpty = false := by cases l <;> rfl
theorem nil_or_snoc {α : Type} (l : List α) : l = [] ∨ ∃ i a, l = i ++ [a] := by
  rcases List.eq_nil_or_concat l with h | ⟨i, a, h⟩
  · exact .inl h
  · exact .inr ⟨i, a, by rw [h, List.concat_eq_append]⟩
/-! ### spread_of -/
def mg1 (acc : List (Int × Int)) (p : Int × Int) : List (Int × Int) := match acc.getLast? with
  | some l => if p.1 ≤ l.2 then acc.dropLast ++ [(l.1, if p.2 > l.2 then p.2 else l.2)] else acc ++ [p]
  | none => [p]
def spreadOf (xs : List (Int × Int)) : List (Int × Int) := (sortP xs).foldl mg1 []
theorem mg1_nil (p : Int × Int) : mg1 [] p = [p] := rfl
theorem mg1_snoc (i : List (Int × Int)) (l p : Int × Int) : mg1 (i ++ [l]) p = if p.1 ≤ l.2 then i ++ [(l.1, if p.2 > l.2 then p.2 else l.2)] else i ++ [l] ++ [p] := by
  unfold mg1
  rw [List.getLast?_append]
  simp
theorem mg1_len (acc : List (Int × Int)) (p : Int × Int) : (mg1 acc p).length ≤ acc.length + 1 := by
  rcases nil_or_snoc acc with rfl | ⟨i, l, rfl⟩
  · exact Nat.le_refl _
  · rw [mg1_snoc]; split <;> simp
theorem spread_of_loop {c : CallT} {G : Gm} {p q : Addr} {x0 : Option D} {full : List D} {P : Pst} (npq : q ≠ p) : ∀ (rest acc : List (Int × Int)) (A : AH) (d2 d3 : Option D), A p = some (.lst (prs acc)) → A q = some (.lst full) → acc.length + rest.length < sizeLine →
    (∀ d2 d3, P.nx [x0, some (.ref p), d2, d3] (up A p (.lst (prs (rest.foldl mg1 acc))))) → dFor (.tp [.nm 2, .nm 3]) (fun A' => A' q = some (.lst full)) (wpSs c G IR.spread_of_b1) (prs rest) P [x0, some (.ref p), d2, d3] A
  | [], acc, A, d2, d3, hp, hq, hz, h => by
    have h := h d2 d3
    rw [List.foldl_nil, up_id hp] at h
    exact ⟨hq, h⟩
  | y :: rest, acc, A, d2, d3, hp, hq, hz, h => by
    rw [prs, List.map_cons, for_cons, prD_eq]
    refine ⟨hq, ?_⟩
    have ih := fun acc' (hz' : acc'.length + rest.length < sizeLine) (h' : ∀ d2 d3, P.nx [x0, some (.ref p), d2, d3] (up (up A p (.lst (prs acc'))) p (.lst (prs (rest.foldl mg1 acc'))))) => spread_of_loop (c := c) (G := G) npq rest acc' (up A p (.lst (prs acc'))) (some (.int y.1)) (some (.int y.2)) up_same (by rw [up_ne npq]; exact hq) hz' h'
    have ih := ih (mg1 acc y) (by have := mg1_len acc y; rw [List.length_cons] at hz; omega) (by intro d2 d3; rw [up_up]; exact h d2 d3)
    unfold IR.spread_of_b1
    walk_at "wp"
    rw [x_truL hp]
    rw [List.length_cons] at hz
    rcases nil_or_snoc acc with rfl | ⟨i, l, rfl⟩
    · walk_at "wp"
      simp only [List.map_nil, List.isEmpty_nil, Bool.not_true, Bool.false_eq_true, if_false, x_isL hp, x_app hp, true_and, List.length_nil]
      exact ⟨by decide, ih⟩
    · rw [prs, List.map_append, List.map_singleton] at hp
      have e0 : L2.atI (List.map prD i ++ [prD l]) (-1) = some (prD l) := atI_last _ _
      rw [mg1_snoc] at ih
      simp only [List.map_append, List.map_singleton, isEmpty_snoc, Bool.not_false, if_true, x_ixL hp e0, prD_eq, x_ixT (atI1 _ _ _), x_ixT (atI0 _ _), x_le, x_truB, decide_eq_true_eq, wq_var3, wq_nil, wq_cons, x_max2]
      split
      · next hle =>
        rw [if_pos hle] at ih
        rw [dSub_last hp]
        simp only [prs, List.map_append, List.map_singleton, prD_eq] at ih
        exact ih
      · next hle =>
        rw [if_neg hle] at ih
        simp only [x_isL hp, x_app hp, true_and]
        refine ⟨?_, ?_⟩
        · rw [List.length_append, List.length_map, List.length_singleton]
          rw [List.length_append, List.length_singleton] at hz
          omega
        · simp only [prs, List.map_append, List.map_singleton, prD_eq] at ih
          exact ih
/-- spread_of, of a tuple or a list of pairs -/
theorem spread_of_any {G : Gm} (hG : G.fn 4 = some ⟨1, 4, IR.spread_of⟩) (n : Nat) {x : D} (xs : List (Int × Int)) {A : AH} {Q : QE} {E : XQ} (hx : ∀ A', Sub A A' → seqD A' x = some (prs xs)) (hz : xs.length < 100000) (h : Q (spd (spreadOf xs)) A) : callN G (n + 1) 4 [x] A Q E := by
  refine callN_mk hG rfl ?_
  unfold IR.spread_of
  walk_at "wp"
  intro p np
  have sp := sort_prs (Q := fun d A1 => dSrc .seq [d] A1 fun xs_1 g => dFor (.tp [.nm 2, .nm 3]) g (wpSs (callN G n) G IR.spread_of_b1) xs_1 ⟨fun δ' A' => wpE (callN G n) G (.var 1) δ' A' (fun d A1 => dBi .tuple [d] A1 (endP Q E).rt) (fun x A' => (endP Q E).ex x δ' A'), (endP Q E).rt, (endP Q E).ct, (endP Q E).ex⟩ [some x, some (.ref p), none, none] A1) (ps := xs) (hx (up A p (.lst [])) (Sub.new np))
  refine sp.mpr ?_
  intro q nq
  rw [x_srcL up_same]
  have hqp := (up_free.mp nq).1
  refine spread_of_loop hqp (sortP xs) [] _ none none ?_ up_same ?_ fun d2 d3 => ?_
  · rw [up_ne (Ne.symm hqp)]; exact up_same
  · rw [(sortP_perm xs).length_eq, List.length_nil]
    show 0 + xs.length < 2 ^ 24
    omega
  · walk_at "wp"
    rw [x_tupL up_same]
    refine ret_at ?_ h
    intro a o e
    have n1 : a ≠ p := ne_up e np
    have n2 : a ≠ q := ne_up e (up_free.mp nq).2
    rw [up_ne n1, up_ne n2, up_ne n1]; exact e
theorem spread_of_lst {G : Gm} (hG : G.fn 4 = some ⟨1, 4, IR.spread_of⟩) (n : Nat) (xs : List (Int × Int)) {a : Addr} {A : AH} {Q : QE} {E : XQ} (ha : A a = some (.lst (prs xs))) (hz : xs.length < 100000) (h : Q (spd (spreadOf xs)) A) : callN G (n + 1) 4 [.ref a] A Q E :=
  spread_of_any hG n xs (fun _ s => seq_ref (s _ _ ha)) hz h
/-! ### spread_by -/
/-! ### has, size, keys_of -/
def hasD (l : List (Int × Int)) (k : Int) : Bool := l.any fun p => decide (p.1 ≤ k) && decide (k < p.2)
def sizeOf' (l : List (Int × Int)) : Int := (l.map fun p => p.2 - p.1).sum
def rgI (i j : Int) : List Int := (List.range (j - i).toNat).map fun k => i + (k : Nat)
def keysOf (l : List (Int × Int)) : List Int := l.flatMap fun p => rgI p.1 p.2
theorem rgD_eq (i j : Int) : rgD i j = (rgI i j).map .int := by unfold rgD rgI; rw [List.map_map]; rfl
end DP

set_option Elab.async false
set_option linter.all false
/-! plain laws of spreads -/
namespace DP
open DL PySem
open L2 hiding prD
abbrev PL := List (Int × Int)
def okF : Int → PL → Prop
  | _, [] => True
  | lo, p :: r => lo ≤ p.1 ∧ p.1 < p.2 ∧ p.2 ≤ 100 ∧ okF (p.2 + 1) r
def endF : Int → PL → Int
  | lo, [] => lo
  | _, p :: r => endF (p.2 + 1) r
theorem hasD_nil (k : Int) : hasD [] k = false := rfl
theorem hasD_cons (p : Int × Int) (r : PL) (k : Int) : hasD (p :: r) k = (decide (p.1 ≤ k) && decide (k < p.2) || hasD r k) := rfl
theorem hasD_app (l m : PL) (k : Int) : hasD (l ++ m) k = (hasD l k || hasD m k) := List.any_append
theorem hasD_consT {p : Int × Int} {r : PL} {k : Int} : hasD (p :: r) k = true ↔ (p.1 ≤ k ∧ k < p.2) ∨ hasD r k = true := by
  rw [hasD_cons]; simp
theorem hasD_mem {l : PL} {k : Int} : hasD l k = true ↔ ∃ p ∈ l, p.1 ≤ k ∧ k < p.2 := by
  unfold hasD; simp [List.any_eq_true]
theorem hasD_perm {l m : PL} (h : l.Perm m) (k : Int) : hasD l k = hasD m k := by
  unfold hasD
  rw [Bool.eq_iff_iff]
  simp only [List.any_eq_true]
  exact ⟨fun ⟨p, a, b⟩ => ⟨p, h.mem_iff.mp a, b⟩, fun ⟨p, a, b⟩ => ⟨p, h.mem_iff.mpr a, b⟩⟩
theorem okF_low : ∀ {l : PL} {lo k : Int}, okF lo l → hasD l k = true → lo ≤ k
  | [], _, _, _, h => by cases h
  | p :: r, lo, k, ⟨a, b, c, d⟩, h => by
    rcases hasD_consT.mp h with h | h
    · omega
    · have := okF_low d h; omega
theorem okF_top : ∀ {l : PL} {lo k : Int}, okF lo l → hasD l k = true → k < 100
  | [], _, _, _, h => by cases h
  | p :: r, lo, k, ⟨a, b, c, d⟩, h => by
    rcases hasD_consT.mp h with h | h
    · omega
    · exact okF_top d h
theorem okF_le : ∀ {l : PL} {lo : Int}, okF lo l → lo ≤ endF lo l
  | [], _, _ => Int.le_refl _
  | p :: r, lo, ⟨a, b, c, d⟩ => by
    show lo ≤ endF (p.2 + 1) r
    have := okF_le d; omega
theorem okF_high : ∀ {l : PL} {lo k : Int}, okF lo l → hasD l k = true → k + 1 < endF lo l
  | [], _, _, _, h => by cases h
  | p :: r, lo, k, ⟨a, b, c, d⟩, h => by
    show k + 1 < endF (p.2 + 1) r
    rcases hasD_consT.mp h with h | h
    · have := okF_le d; omega
    · exact okF_high d h
theorem okF_app : ∀ {l m : PL} {lo : Int}, okF lo (l ++ m) ↔ okF lo l ∧ okF (endF lo l) m
  | [], m, lo => by simp [okF, endF]
  | p :: r, m, lo => by
    show (lo ≤ p.1 ∧ p.1 < p.2 ∧ p.2 ≤ 100 ∧ okF (p.2 + 1) (r ++ m)) ↔ (lo ≤ p.1 ∧ p.1 < p.2 ∧ p.2 ≤ 100 ∧ okF (p.2 + 1) r) ∧ okF (endF (p.2 + 1) r) m
    rw [okF_app]
    simp only [and_assoc]
theorem endF_app : ∀ {l m : PL} {lo : Int}, endF lo (l ++ m) = endF (endF lo l) m
  | [], m, lo => rfl
  | p :: r, m, lo => endF_app (l := r)
/-- a spread is told by its keys -/
theorem okF_uniq : ∀ {l m : PL} {lo lo' : Int}, okF lo l → okF lo' m → (∀ k, hasD l k = hasD m k) → l = m
  | [], [], _, _, _, _, _ => rfl
  | [], q :: s, _, _, _, ⟨a, b, c, d⟩, h => by
    have := h q.1
    rw [hasD_nil] at this
    have h2 : hasD (q :: s) q.1 = true := hasD_consT.mpr (.inl ⟨Int.le_refl _, b⟩)
    rw [h2] at this; cases this
  | p :: r, [], _, _, ⟨a, b, c, d⟩, _, h => by
    have := h p.1
    rw [hasD_nil] at this
    have h2 : hasD (p :: r) p.1 = true := hasD_consT.mpr (.inl ⟨Int.le_refl _, b⟩)
    rw [h2] at this; cases this
  | p :: r, q :: s, lo, lo', ⟨a, b, c, d⟩, ⟨a', b', c', d'⟩, h => by
    have hp : hasD (q :: s) p.1 = true := by rw [← h]; exact hasD_consT.mpr (.inl ⟨Int.le_refl _, b⟩)
    have hq : hasD (p :: r) q.1 = true := by rw [h]; exact hasD_consT.mpr (.inl ⟨Int.le_refl _, b'⟩)
    have e1 : p.1 = q.1 := by
      have x := okF_low (lo := q.1) (l := q :: s) ⟨Int.le_refl _, b', c', d'⟩ hp
      have y := okF_low (lo := p.1) (l := p :: r) ⟨Int.le_refl _, b, c, d⟩ hq
      omega
    have e2 : p.2 = q.2 := by
      rcases Int.lt_trichotomy p.2 q.2 with g | g | g
      · have x : hasD (p :: r) p.2 = true := by rw [h]; exact hasD_consT.mpr (.inl ⟨by omega, g⟩)
        rcases hasD_consT.mp x with x | x
        · omega
        · have := okF_low d x; omega
      · exact g
      · have x : hasD (q :: s) q.2 = true := by rw [← h]; exact hasD_consT.mpr (.inl ⟨by omega, g⟩)
        rcases hasD_consT.mp x with x | x
        · omega
        · have := okF_low d' x; omega
    have e3 : r = s := okF_uniq d d' fun k => by
      have := h k
      rw [Bool.eq_iff_iff, hasD_consT, hasD_consT, e1, e2] at this
      rw [Bool.eq_iff_iff]
      constructor
      · intro x
        have := this.mp (.inr x)
        rcases this with z | z
        · have := okF_low d x; omega
        · exact z
      · intro x
        have := this.mpr (.inr x)
        rcases this with z | z
        · have := okF_low d' x; omega
        · exact z
    rw [e3, show p = q from Prod.ext e1 e2]
/-! spread_of -/
def mgR : Int × Int → PL → PL
  | c, [] => [c]
  | c, p :: r => if p.1 ≤ c.2 then mgR (c.1, if p.2 > c.2 then p.2 else c.2) r else c :: mgR p r
theorem mg_fold : ∀ (l i : PL) (c : Int × Int), l.foldl mg1 (i ++ [c]) = i ++ mgR c l
  | [], i, c => rfl
  | p :: r, i, c => by
    rw [List.foldl_cons, mg1_snoc]
    unfold mgR
    split
    · exact mg_fold r i _
    · rw [mg_fold r (i ++ [c]) p, List.append_assoc]; rfl
def okSt (p : Int × Int) : Prop := 0 ≤ p.1 ∧ p.1 < p.2 ∧ p.2 ≤ 100
theorem mgR_ok : ∀ (l : PL) (c : Int × Int) (lo : Int), lo ≤ c.1 → c.1 < c.2 → c.2 ≤ 100 → (∀ p ∈ l, okSt p) → (c :: l).Pairwise (fun p q => leP p q = true) → okF lo (mgR c l) ∧ ∀ k, hasD (mgR c l) k = hasD (c :: l) k
  | [], c, lo, h1, h2, h3, _, _ => ⟨⟨h1, h2, h3, True.intro⟩, fun _ => rfl⟩
  | p :: r, c, lo, h1, h2, h3, hl, hs => by
    have hp := hl p List.mem_cons_self
    have hc : c.1 ≤ p.1 := by
      have := (List.pairwise_cons.mp hs).1 p List.mem_cons_self
      simp only [leP, Bool.or_eq_true, Bool.and_eq_true, decide_eq_true_eq] at this
      omega
    have hs2 := (List.pairwise_cons.mp hs).2
    unfold mgR
    split
    · next hle =>
      have hh := mgR_ok r (c.1, if p.2 > c.2 then p.2 else c.2) lo h1 (by dsimp only; split <;> omega) (by have := hp.2.2; dsimp only; split <;> omega) (fun q hq => hl q (List.mem_cons_of_mem _ hq)) (by
        refine List.pairwise_cons.mpr ⟨fun q hq => ?_, (List.pairwise_cons.mp hs2).2⟩
        have a1 := (List.pairwise_cons.mp hs).1 q (List.mem_cons_of_mem _ hq)
        have a2 := (List.pairwise_cons.mp hs2).1 q hq
        simp only [leP, Bool.or_eq_true, Bool.and_eq_true, decide_eq_true_eq] at a1 a2 ⊢
        split <;> omega)
      refine ⟨hh.1, fun k => ?_⟩
      rw [hh.2, Bool.eq_iff_iff, hasD_consT, hasD_consT, hasD_consT, ← or_assoc]
      have := hp.2.1
      refine or_congr ?_ Iff.rfl
      dsimp only
      split <;> omega
    · next hle =>
      have hh := mgR_ok r p (c.2 + 1) (by omega) hp.2.1 hp.2.2 (fun q hq => hl q (List.mem_cons_of_mem _ hq)) hs2
      refine ⟨⟨h1, h2, h3, hh.1⟩, fun k => ?_⟩
      rw [hasD_cons, hh.2, hasD_cons c]
theorem spreadOf_ok (xs : PL) (h : ∀ p ∈ xs, okSt p) : okF 0 (spreadOf xs) ∧ ∀ k, hasD (spreadOf xs) k = hasD xs k := by
  have hm : ∀ p ∈ sortP xs, okSt p := fun p hp => h p ((sortP_perm xs).mem_iff.mp hp)
  have hw := sortP_pw xs
  have he := hasD_perm (sortP_perm xs)
  unfold spreadOf
  cases e : sortP xs with
  | nil => rw [e] at he; exact ⟨True.intro, fun k => he k⟩
  | cons c l =>
    rw [e] at hm hw he
    rw [List.foldl_cons, mg1_nil, show [c] = [] ++ [c] from rfl, mg_fold, List.nil_append]
    have hc := hm c List.mem_cons_self
    have hh := mgR_ok l c 0 hc.1 hc.2.1 hc.2.2 (fun p hp => hm p (List.mem_cons_of_mem _ hp)) hw
    exact ⟨hh.1, fun k => by rw [hh.2, he]⟩
theorem okF_st : ∀ {l : PL} {lo : Int}, okF lo l → 0 ≤ lo → ∀ p ∈ l, okSt p
  | [], _, _, _, _, h => by cases h
  | q :: r, lo, ⟨a, b, c, d⟩, h0, p, hp => by
    rcases List.mem_cons.mp hp with rfl | hp
    · exact ⟨by omega, b, c⟩
    · exact okF_st d (by omega) p hp
theorem spreadOf_eq {xs l : PL} (h : ∀ p ∈ xs, okSt p) (hl : okF 0 l) (he : ∀ k, hasD xs k = hasD l k) : spreadOf xs = l :=
  okF_uniq (spreadOf_ok xs h).1 hl fun k => by rw [(spreadOf_ok xs h).2, he]
/-! keys -/
theorem mem_rgI {i j k : Int} : k ∈ rgI i j ↔ i ≤ k ∧ k < j := by
  unfold rgI
  rw [List.mem_map]
  constructor
  · rintro ⟨n, hn, rfl⟩
    have := List.mem_range.mp hn
    omega
  · intro h
    exact ⟨(k - i).toNat, List.mem_range.mpr (by omega), by omega⟩
theorem mem_keysOf {l : PL} {k : Int} : k ∈ keysOf l ↔ hasD l k = true := by
  unfold keysOf
  rw [List.mem_flatMap, hasD_mem]
  simp only [mem_rgI]
theorem rgI_pw (i j : Int) : (rgI i j).Pairwise (· < ·) := by
  unfold rgI
  refine List.Pairwise.map _ (R := fun a b => a < b) (fun a b h => by omega) List.pairwise_lt_range
theorem rgI_len (i j : Int) : ((rgI i j).length : Int) = if i ≤ j then j - i else 0 := by
  unfold rgI
  rw [List.length_map, List.length_range]
  split <;> omega
theorem keysOf_pw : ∀ {l : PL} {lo : Int}, okF lo l → (keysOf l).Pairwise (· < ·)
  | [], _, _ => List.Pairwise.nil
  | p :: r, lo, ⟨a, b, c, d⟩ => by
    unfold keysOf
    rw [List.flatMap_cons, List.pairwise_append]
    refine ⟨rgI_pw _ _, keysOf_pw d, fun x hx y hy => ?_⟩
    have h1 := mem_rgI.mp hx
    have h2 := okF_low d (mem_keysOf.mp hy)
    omega
theorem pw_ext : ∀ {l m : List Int}, l.Pairwise (· < ·) → m.Pairwise (· < ·) → (∀ x, x ∈ l ↔ x ∈ m) → l = m
  | [], [], _, _, _ => rfl
  | [], y :: m, _, _, h => by have := (h y).mpr List.mem_cons_self; cases this
  | x :: l, [], _, _, h => by have := (h x).mp List.mem_cons_self; cases this
  | x :: l, y :: m, h1, h2, h => by
    have a1 := List.pairwise_cons.mp h1
    have a2 := List.pairwise_cons.mp h2
    have e : x = y := by
      rcases List.mem_cons.mp ((h x).mp List.mem_cons_self) with e | e
      · exact e
      · rcases List.mem_cons.mp ((h y).mpr List.mem_cons_self) with e2 | e2
        · exact e2.symm
        · have := a2.1 x e; have := a1.1 y e2; omega
    subst e
    rw [pw_ext a1.2 a2.2 fun z => ?_]
    constructor
    · intro hz
      rcases List.mem_cons.mp ((h z).mp (List.mem_cons_of_mem _ hz)) with e | e
      · have := a1.1 z hz; omega
      · exact e
    · intro hz
      rcases List.mem_cons.mp ((h z).mpr (List.mem_cons_of_mem _ hz)) with e | e
      · have := a2.1 z hz; omega
      · exact e
theorem okF_len : ∀ {l : PL} {lo : Int}, okF lo l → lo ≤ 101 → 2 * (l.length : Int) ≤ 101 - lo
  | [], _, _, h => by simp; omega
  | p :: r, lo, ⟨a, b, c, d⟩, h => by
    have := okF_len d (by omega)
    rw [List.length_cons]; omega
/-! the form of some keys -/
def fm1 (f : Int → Bool) (acc : PL) (k : Int) : PL := if f k = true ∧ 0 < k ∧ f (k - 1) = true then (match acc.getLast? with | some l => acc.dropLast ++ [(l.1, k + 1)] | none => acc) else if f k then acc ++ [(k, k + 1)] else acc
def formOf (f : Int → Bool) : PL := (rgI 0 100).foldl (fm1 f) []
structure FI (f : Int → Bool) (n : Int) (acc : PL) : Prop where
  ok : okF 0 acc
  en : endF 0 acc ≤ n + 1
  has : ∀ k, hasD acc k = (decide (0 ≤ k) && decide (k < n) && f k)
theorem FI.last {f : Int → Bool} {n : Int} {acc : PL} (h : FI f n acc) (h0 : 0 < n) (hf : f (n - 1) = true) : ∃ i l, acc = i ++ [l] ∧ l.2 = n := by
  have hh := h.has (n - 1)
  rw [hf, decide_eq_true (by omega), decide_eq_true (by omega)] at hh
  rcases nil_or_snoc acc with rfl | ⟨i, l, rfl⟩
  · cases hh
  · refine ⟨i, l, rfl, ?_⟩
    have h1 := okF_app.mp h.ok
    have h2 := h.en
    rw [endF_app] at h2
    have h2 : l.2 + 1 ≤ n + 1 := h2
    have h3 : endF 0 i ≤ l.1 := h1.2.1
    have h4 := h1.2.2.1
    rw [hasD_app] at hh
    rcases Bool.or_eq_true _ _ ▸ hh with e | e
    · have := okF_high h1.1 e; omega
    · rcases hasD_consT.mp e with e | e
      · omega
      · cases e
theorem FI.step {f : Int → Bool} {n : Int} {acc : PL} (h : FI f n acc) (h0 : 0 ≤ n) (h1 : n < 100) : FI f (n + 1) (fm1 f acc n) := by
  have key : ∀ k : Int, (decide (0 ≤ k) && decide (k < n + 1) && f k) = (decide (0 ≤ k) && decide (k < n) && f k || (decide (k = n) && f n)) := by
    intro k
    by_cases e : k = n
    · subst e; simp [h0]
      intro; omega
    · have e2 : (k < n + 1) = (k < n) := propext ⟨fun _ => by omega, fun _ => by omega⟩
      simp only [e, e2, decide_false, Bool.false_and, Bool.or_false]
  unfold fm1
  split
  · next c =>
    obtain ⟨i, l, rfl, el⟩ := h.last c.2.1 c.2.2
    rw [show (i ++ [l]).getLast? = some l by rw [List.getLast?_append]; rfl, List.dropLast_concat]
    have h3 := okF_app.mp h.ok
    refine ⟨?_, ?_, fun k => ?_⟩
    · refine okF_app.mpr ⟨h3.1, h3.2.1, ?_, ?_, True.intro⟩
      · have := h3.2.2.1; show l.1 < n + 1; omega
      · show n + 1 ≤ 100; omega
    · rw [endF_app]; exact Int.le_refl _
    · rw [key, ← h.has, hasD_app, hasD_app, Bool.or_assoc]
      congr 1
      rw [Bool.eq_iff_iff, c.1]
      have := h3.2.2.1
      simp [hasD_cons, hasD_nil]
      omega
  · next c =>
    split
    · next c2 =>
      refine ⟨okF_app.mpr ⟨h.ok, ?_, ?_, ?_, True.intro⟩, ?_, fun k => ?_⟩
      · rcases nil_or_snoc acc with rfl | ⟨i, l, rfl⟩
        · exact h0
        · have h3 := okF_app.mp h.ok
          have h2 := h.en
          rw [endF_app] at h2 ⊢
          have h2 : l.2 + 1 ≤ n + 1 := h2
          show l.2 + 1 ≤ n
          have h4 := h3.2.2.1
          have h5 : endF 0 i ≤ l.1 := h3.2.1
          have h6 := okF_le h3.1
          rcases Int.lt_or_eq_of_le h2 with g | g
          · omega
          · exfalso
            have hh := h.has (n - 1)
            rw [hasD_app, show hasD [l] (n - 1) = true from hasD_consT.mpr (.inl ⟨by omega, by omega⟩), Bool.or_true] at hh
            have hh := Bool.and_eq_true _ _ ▸ hh.symm
            exact c ⟨c2, by omega, hh.2⟩
      · show n < n + 1; omega
      · show n + 1 ≤ 100; omega
      · rw [endF_app]; exact Int.le_refl _
      · rw [key, ← h.has, hasD_app]
        congr 1
        rw [Bool.eq_iff_iff, c2]
        simp [hasD_cons, hasD_nil]
        omega
    · next c2 =>
      refine ⟨h.ok, by have := h.en; omega, fun k => ?_⟩
      rw [key, ← h.has, Bool.eq_false_iff.mpr c2, Bool.and_false, Bool.or_false]
theorem rgI_snoc {i j : Int} (h : i ≤ j) : rgI i (j + 1) = rgI i j ++ [j] := by
  unfold rgI
  rw [show (j + 1 - i).toNat = (j - i).toNat + 1 by omega, List.range_succ, List.map_append, List.map_singleton]
  congr 2
  omega
theorem form_fi (f : Int → Bool) : ∀ n : Nat, n ≤ 100 → FI f n ((rgI 0 n).foldl (fm1 f) [])
  | 0, _ => ⟨True.intro, by show (0 : Int) ≤ _; omega, fun k => by
      have : (decide (0 ≤ k) && decide (k < ((0 : Nat) : Int)) && f k) = false := by
        rw [Bool.eq_false_iff]; intro h
        simp at h; omega
      rw [this]; rfl⟩
  | n + 1, h => by
    have := (form_fi f n (by omega)).step (by omega) (by omega)
    rw [show ((n + 1 : Nat) : Int) = (n : Int) + 1 from rfl, rgI_snoc (by omega), List.foldl_append]
    exact this
theorem form_ok (f : Int → Bool) : okF 0 (formOf f) := (form_fi f 100 (Nat.le_refl _)).ok
theorem form_has (f : Int → Bool) (k : Int) : hasD (formOf f) k = (decide (0 ≤ k) && decide (k < 100) && f k) := (form_fi f 100 (Nat.le_refl _)).has k
theorem form_eq {f : Int → Bool} {l : PL} (hl : okF 0 l) (h : ∀ k, 0 ≤ k → k < 100 → f k = hasD l k) : formOf f = l :=
  okF_uniq (form_ok f) hl fun k => by
    rw [form_has]
    by_cases a : 0 ≤ k
    · by_cases b : k < 100
      · rw [decide_eq_true a, decide_eq_true b, h k a b]; rfl
      · rw [decide_eq_true a, decide_eq_false b]
        show false = hasD l k
        symm; rw [Bool.eq_false_iff]; intro e; have := okF_top hl e; exact absurd this b
    · rw [decide_eq_false a]
      show false = hasD l k
      symm; rw [Bool.eq_false_iff]; intro e; have := okF_low hl e; exact absurd this a
end DP

set_option Elab.async false
set_option linter.all false
set_option maxRecDepth 100000
namespace DP
open DL PySem
open L2 hiding prD
local macro_rules | `(tactic| walk_at "wp") => `(tactic| try simp only [startD, List.map_cons, List.map_nil, List.length_cons, List.length_nil, Nat.zero_add, Nat.reduceAdd, Nat.reduceSub, List.replicate_succ, List.replicate_zero, List.cons_append, List.nil_append, List.set_cons_zero, List.set_cons_succ, setAll, wipeD,
  wq_var0, wq_var1, wq_var2, wq_var3, wq_var4, wq_var5, wq_var6, wq_var7, wq_var8, wq_var9, wq_var10, wq_var11, wq_var12, wq_var13, wq_var14, wq_var15, wq_cst, wq_tup, wq_lst, wq_bin, wq_neg, wq_cmp, wq_chn, wq_isn, wq_isb, wq_notv, wq_andv, wq_orv, wq_ite, wq_call, wq_bi, wq_isi, wq_rgl, wq_ix, wq_cut, wq_rev, wq_comp, wq_bm, wq_nil, wq_cons, wq_on, wq_os, wq_val, wq_and, wq_or, wq_not, wq_yes, wq_snil, wq_scons, wq_set, wq_tset, wq_par, wq_sub, wq_expr, wq_if, wq_for, wq_whil, wq_ret, wq_pass, wq_cont, end_rt, end_nx,
  x_addI, x_addT, x_addS, x_sub, x_mul, x_fdiv, x_mod, x_lt, x_le, x_gt, x_ge, x_eqI, x_neI, x_bTst, x_truB, x_truN, x_truI, x_truT, x_truR, x_lenT, x_lenR, x_tupT, x_lstT, x_min2, x_max2, x_intB, x_intI, x_cutT, x_revT, x_srcT, x_srcR, x_rng1, x_rng2, x_zip, x_rgl1, x_rgl2, g_nm, g_tp, g_cons, g_nil, ty_app, ty_ext, ty_pop, ty_popi, if_true, if_false, Bool.false_eq_true, Bool.true_eq_false, Bool.not_true, Bool.not_false, len2_ok, len0_ok, true_and, isNonD])

def twn (k : Nat) : List D := List.replicate k (.int 0)
abbrev tw (k : Nat) : AO := .lst (twn k)
theorem twn_len (k : Nat) : (twn k).length = k := List.length_replicate
theorem twn_snoc (k : Nat) : twn k ++ [.int 0] = twn (k + 1) := by
  unfold twn; rw [← List.replicate_succ']
theorem cmulA {i j : Int} (h : -(2 ^ 64) < i ∧ i < 2 ^ 64) : CMul i j := .inl h
theorem cmulB {i j : Int} (h : -(2 ^ 64) < j ∧ j < 2 ^ 64) : CMul i j := .inr h
theorem cdiv64 {i : Int} : CDiv i 64 := ⟨by decide, by decide⟩
theorem atI_mod {α : Type} (l : List α) (j : Int) (h : l ≠ []) : ∃ x ∈ l, L2.atI l (j % (l.length : Int)) = some x := by
  have hp : 0 < l.length := List.length_pos_iff.mpr h
  have h1 := Int.emod_nonneg j (b := (l.length : Int)) (by omega)
  have h2 := Int.emod_lt_of_pos j (b := (l.length : Int)) (by omega)
  have hi : (j % (l.length : Int)).toNat < l.length := by omega
  refine ⟨l[(j % (l.length : Int)).toNat], List.getElem_mem hi, ?_⟩
  have := atI_nat (j := (j % (l.length : Int)).toNat) (List.getElem?_eq_getElem hi)
  rw [Int.toNat_of_nonneg h1] at this
  exact this
theorem eq_or_ne' {α : Type} (l : List α) : l = [] ∨ l ≠ [] := by cases l with | nil => exact .inl rfl | cons a b => exact .inr (by simp)
theorem draw2 {G : Gm} (hG : G.fn 102 = some ⟨3, 7, IR.law_draw_k18⟩) (n : Nat) (ns : List Int) {t : Addr} {k : Nat} {m : Int} {A : AH} {Q : QE} {E : XQ} (ht : A t = some (tw k)) (hk : k < 100000) (hm : 0 < m) (h : ∀ r, 0 ≤ r → r < m → Q (.int r) (up A t (tw (k + 1)))) : callN G (n + 1) 102 [.rol (ns.map .int), .ref t, .int m] A Q E := by
  refine callN_mk hG rfl ?_
  unfold IR.law_draw_k18
  walk_at "wp"
  rw [x_isL ht, x_app ht]
  refine ⟨True.intro, by rw [twn_len]; exact Nat.lt_of_lt_of_le hk (by decide), ?_⟩
  rw [twn_snoc, x_lenL up_same]
  rcases eq_or_ne' ns with rfl | hne
  · walk_at "wp"
    refine ⟨cmulA (by decide), by decide, cmulA (by omega), by decide, cmulB (by decide), by decide, cmulA (by omega), by decide, cmulB (by decide), by decide, cdiv64, cmulB (by decide), cdiv64, hm, ret_here (h _ (Int.emod_nonneg _ (by omega)) (Int.emod_lt_of_pos _ hm))⟩
  · obtain ⟨x, hx, ex⟩ := atI_mod (ns.map D.int) ((twn (k + 1)).length : Int) (by rw [Ne, List.map_eq_nil_iff]; exact hne)
    obtain ⟨y, hy, rfl⟩ := List.mem_map.mp hx
    have hp : 0 < (List.map D.int ns).length := by rw [List.length_map]; exact List.length_pos_iff.mpr hne
    walk_at "wp"
    rw [show (!(List.map D.int ns).isEmpty) = true by cases ns with | nil => exact absurd rfl hne | cons a b => rfl, if_pos rfl]
    refine ⟨by omega, ?_⟩
    rw [x_ixR ex]
    walk_at "wp"
    refine ⟨cmulA (by decide), by decide, cmulA (by omega), by decide, cmulB (by decide), by decide, cmulA (by omega), by decide, cmulB (by decide), by decide, cdiv64, cmulB (by decide), cdiv64, hm, ret_here (h _ (Int.emod_nonneg _ (by omega)) (Int.emod_lt_of_pos _ hm))⟩
/-- what the law's draw does, whichever it is -/
def Draws (G : Gm) : Prop := ∀ (n : Nat) (ns : List Int) {t : Addr} {k : Nat} {m : Int} {A : AH} {Q : QE} {E : XQ}, A t = some (tw k) → k < 100000 → 0 < m → (∀ r, 0 ≤ r → r < m → Q (.int r) (up A t (tw (k + 1)))) → callN G (n + 1) 102 [.rol (ns.map .int), .ref t, .int m] A Q E
theorem atI_in {α : Type} (l : List α) {r : Int} (h0 : 0 ≤ r) (h1 : r < l.length) : ∃ x ∈ l, L2.atI l r = some x := by
  have hi : r.toNat < l.length := by omega
  refine ⟨l[r.toNat], List.getElem_mem hi, ?_⟩
  have := atI_nat (j := r.toNat) (List.getElem?_eq_getElem hi)
  rw [Int.toNat_of_nonneg h0] at this
  exact this
theorem pick_lst {G : Gm} (hD : Draws G) (hG : G.fn 103 = some ⟨3, 3, IR.law_pick⟩) (n : Nat) (ns : List Int) {t a : Addr} {k : Nat} {xs : List D} {A : AH} {Q : QE} {E : XQ} (ht : A t = some (tw k)) (hk : k < 100000) (hta : t ≠ a) (ha : A a = some (.lst xs)) (hne : xs ≠ []) (h : ∀ x ∈ xs, Q x (up A t (tw (k + 1)))) : callN G (n + 2) 103 [.rol (ns.map .int), .ref t, .ref a] A Q E := by
  refine callN_mk hG rfl ?_
  unfold IR.law_pick
  walk_at "wp"
  rw [x_lenL ha]
  have hp : 0 < xs.length := List.length_pos_iff.mpr hne
  refine hD n ns ht hk (by omega) fun r h0 h1 => ?_
  obtain ⟨x, hx, ex⟩ := atI_in xs h0 h1
  rw [x_ixL (by rw [up_ne (Ne.symm hta)]; exact ha) ex]
  exact ret_here (h x hx)
/-! loops by an invariant -/
theorem for_inv {tg : Tg} {g : AH → Prop} {body : WS} {P : Pst} (I : Nat → DSt → AH → Prop) : ∀ (xs : List D) (j : Nat) {δ : DSt} {A : AH}, (∀ i x δ A N, xs[i]? = some x → I (j + i) δ A → (∀ δ' A', I (j + i + 1) δ' A' → N δ' A') → g A ∧ gAsg tg x δ A fun δ' => body ⟨N, P.rt, N, P.ex⟩ δ' A) → I j δ A → (∀ δ A, I (j + xs.length) δ A → g A ∧ P.nx δ A) → dFor tg g body xs P δ A
  | [], j, δ, A, _, h0, hn => hn δ A h0
  | x :: xs, j, δ, A, hb, h0, hn => by
    rw [for_cons]
    refine hb 0 x δ A _ rfl h0 fun δ' A' h' => for_inv I xs (j + 1) (fun i y δ A N hy hI hN => ?_) h' fun δ A hI => hn δ A (by rw [List.length_cons]; rw [show j + (xs.length + 1) = j + 1 + xs.length by omega]; exact hI)
    refine hb (i + 1) y δ A N hy (by rw [show j + (i + 1) = j + 1 + i by omega]; exact hI) fun δ' A' h => hN δ' A' (by rw [show j + 1 + i + 1 = j + (i + 1) + 1 by omega]; exact h)
theorem rgD_get {m : Int} {i : Nat} {x : D} (h : (rgD 0 m)[i]? = some x) : x = .int i ∧ (i : Int) < m := by
  have hi := (List.getElem?_eq_some_iff.mp h).1
  have := (List.getElem?_eq_some_iff.mp h).2
  unfold rgD at hi this
  rw [List.length_map, List.length_range] at hi
  rw [List.getElem_map, List.getElem_range] at this
  refine ⟨?_, by omega⟩
  rw [← this]; congr 1; omega
theorem rgD_len (i j : Int) : (rgD i j).length = (j - i).toNat := by unfold rgD; rw [List.length_map, List.length_range]
/-! a heap that has grown, and whose town is longer -/
theorem gr_t {A A' : AH} {t : Addr} {o : AO} (s : Sub (up A t o) A') : A' t = some o := s _ _ up_same
theorem gr_up {A A' : AH} {t : Addr} {o u : AO} (s : Sub (up A t o) A') : Sub (up A t u) (up A' t u) := by
  intro a v h
  by_cases e : a = t
  · subst e; rw [up_same] at h ⊢; exact h
  · rw [up_ne e] at h ⊢; exact s _ _ (by rw [up_ne e]; exact h)
theorem gr_new {A B : AH} {p : Addr} {o : AO} (s : Sub B A) (h : A p = none) : Sub B (up A p o) := fun a v ha => Sub.new h _ _ (s _ _ ha)
theorem ne_free {A : AH} {t p : Addr} {o : AO} (h : A t = some o) (hp : A p = none) : t ≠ p := by intro e; subst e; rw [h] at hp; cases hp
end DP

set_option Elab.async false
set_option linter.all false
set_option maxRecDepth 100000
namespace DP
open DL PySem
open L2 hiding prD
local macro_rules | `(tactic| walk_at "wp") => `(tactic| try simp only [startD, List.map_cons, List.map_nil, List.length_cons, List.length_nil, Nat.zero_add, Nat.reduceAdd, Nat.reduceSub, List.replicate_succ, List.replicate_zero, List.cons_append, List.nil_append, List.set_cons_zero, List.set_cons_succ, setAll, wipeD,
  wq_var0, wq_var1, wq_var2, wq_var3, wq_var4, wq_var5, wq_var6, wq_var7, wq_var8, wq_var9, wq_var10, wq_var11, wq_var12, wq_var13, wq_var14, wq_var15, wq_cst, wq_tup, wq_lst, wq_bin, wq_neg, wq_cmp, wq_chn, wq_isn, wq_isb, wq_notv, wq_andv, wq_orv, wq_ite, wq_call, wq_bi, wq_isi, wq_rgl, wq_ix, wq_cut, wq_rev, wq_comp, wq_bm, wq_nil, wq_cons, wq_on, wq_os, wq_val, wq_and, wq_or, wq_not, wq_yes, wq_snil, wq_scons, wq_set, wq_tset, wq_par, wq_sub, wq_expr, wq_if, wq_for, wq_whil, wq_ret, wq_pass, wq_cont, end_rt, end_nx,
  x_addI, x_addT, x_addS, x_sub, x_mul, x_fdiv, x_mod, x_lt, x_le, x_gt, x_ge, x_eqI, x_neI, x_bTst, x_truB, x_truN, x_truI, x_truT, x_truR, x_lenT, x_lenR, x_tupT, x_lstT, x_min2, x_max2, x_intB, x_intI, x_cutT, x_revT, x_srcT, x_srcR, x_rng1, x_rng2, x_zip, x_rgl1, x_rgl2, g_nm, g_tp, g_cons, g_nil, ty_app, ty_ext, ty_pop, ty_popi, if_true, if_false, Bool.false_eq_true, Bool.true_eq_false, Bool.not_true, Bool.not_false, len2_ok, len0_ok, true_and, isNonD])

/-! the keys of stretches, and their form -/
def bls (f : Int → Bool) : List D := (rgI 0 100).map fun k => .bl (f k)
theorem bls_get (f : Int → Bool) {k : Nat} (h : k < 100) : (bls f)[k]? = some (.bl (f k)) := by
  unfold bls rgI
  rw [List.map_map, List.getElem?_map, List.getElem?_range (by omega)]
  show some (D.bl (f (0 + (k : Nat)))) = _
  rw [Int.zero_add]
theorem bls_at (f : Int → Bool) {k : Int} (h0 : 0 ≤ k) (h : k < 100) : L2.atI (bls f) k = some (.bl (f k)) := by
  have := atI_nat (bls_get f (k := k.toNat) (by omega))
  rw [Int.toNat_of_nonneg h0] at this
  exact this
theorem rgI_get {a b z : Int} {j : Nat} (h : (rgI a b)[j]? = some z) : z = a + (j : Nat) := by
  unfold rgI at h
  rw [List.getElem?_map] at h
  obtain ⟨w, hw, rfl⟩ := Option.map_eq_some_iff.mp h
  have := (List.getElem?_eq_some_iff.mp hw).2
  rw [List.getElem_range] at this
  omega
theorem law_form {G : Gm} (hG : G.fn 106 = some ⟨1, 3, IR.law_form⟩) (n : Nat) (f : Int → Bool) {a : Addr} {A : AH} {Q : QE} {E : XQ} (ha : A a = some (.lst (bls f))) (h : Q (spd (formOf f)) A) : callN G (n + 1) 106 [.ref a] A Q E := by
  refine callN_mk hG rfl ?_
  unfold IR.law_form
  walk_at "wp"
  intro p np
  walk_at "wp"
  have hap : a ≠ p := ne_free ha np
  refine ⟨by decide, ?_⟩
  refine for_inv (fun j δ B => ∃ d2, δ = [some (.ref a), some (.ref p), d2] ∧ B = up A p (.lst (prs ((rgI 0 j).foldl (fm1 f) [])))) (rgD 0 100) 0 ?_ ⟨none, rfl, rfl⟩ ?_
  · rintro i x δ B N hi ⟨d2, rfl, rfl⟩ hN
    refine ⟨True.intro, ?_⟩
    obtain ⟨rfl, hlt⟩ := rgD_get hi
    rw [Nat.zero_add] at hN ⊢
    have fi := form_fi f i (by omega)
    have e2 : (rgI 0 ((i + 1 : Nat) : Int)).foldl (fm1 f) [] = fm1 f ((rgI 0 (i : Int)).foldl (fm1 f) []) i := by
      rw [show ((i + 1 : Nat) : Int) = (i : Int) + 1 from rfl, rgI_snoc (by omega), List.foldl_append]; rfl
    rw [e2] at hN
    generalize (rgI 0 (i : Int)).foldl (fm1 f) [] = acc at fi hN ⊢
    have hlen := okF_len fi.ok (by decide)
    have hal : up A p (.lst (prs acc)) a = some (.lst (bls f)) := by rw [up_ne hap]; exact ha
    have hat := bls_at f (k := (i : Int)) (by omega) hlt
    have hap1 : ∀ q : Int × Int, (.lst (prs acc ++ [prD q])) = AO.lst (prs (acc ++ [q])) := fun q => by rw [prs, prs, List.map_append]; rfl
    have hsz : (prs acc).length < sizeLine := by
      rw [List.length_map]; exact Nat.lt_of_lt_of_le (by omega : acc.length < 100000) (by decide)
    unfold IR.law_form_b1
    walk_at "wp"
    simp only [x_ixL hal hat, x_truB]
    cases hf : f i with
    | false =>
      simp only [Bool.false_eq_true, if_false]
      refine hN _ _ ⟨_, rfl, ?_⟩
      unfold fm1
      rw [if_neg (by rw [hf]; simp), if_neg (by rw [hf]; simp)]
    | true =>
      simp only [if_true]
      cases hd : decide (0 < (i : Int)) with
      | false =>
        simp only [Bool.false_eq_true, if_false, if_true, x_ixL hal hat, x_truB, hf, x_isL up_same, x_app up_same, up_up, true_and]
        refine ⟨hsz, hN _ _ ⟨_, rfl, ?_⟩⟩
        unfold fm1
        rw [if_neg (by have := of_decide_eq_false hd; omega), if_pos hf, ← hap1]; rfl
      | true =>
        have hd := of_decide_eq_true hd
        have hat1 := bls_at f (k := (i : Int) - 1) (by omega) (by omega)
        simp only [if_true, x_ixL hal hat1, x_truB]
        cases hf1 : f ((i : Int) - 1) with
        | false =>
          simp only [Bool.false_eq_true, if_false, if_true, x_ixL hal hat, x_truB, hf, x_isL up_same, x_app up_same, up_up, true_and]
          refine ⟨hsz, hN _ _ ⟨_, rfl, ?_⟩⟩
          unfold fm1
          rw [if_neg (by rw [hf1]; simp), if_pos hf, ← hap1]; rfl
        | true =>
          simp only [if_true]
          obtain ⟨ii, l, rfl, el⟩ := fi.last hd hf1
          have hpl : up A p (.lst (prs (ii ++ [l]))) p = some (.lst (prs ii ++ [prD l])) := by rw [up_same, prs, List.map_append]; rfl
          have e0 : L2.atI (prs ii ++ [prD l]) (-1) = some (prD l) := atI_last _ _
          simp only [x_ixL hpl e0, prD_eq, x_ixT (atI0 _ _)]
          rw [dSub_last hpl, up_up]
          refine hN _ _ ⟨_, rfl, ?_⟩
          unfold fm1
          rw [if_pos ⟨hf, hd, hf1⟩, show (ii ++ [l]).getLast? = some l by rw [List.getLast?_append]; rfl, List.dropLast_concat]
          simp only [prs, List.map_append]; rfl
  · rintro δ B ⟨d2, rfl, rfl⟩
    refine ⟨True.intro, ?_⟩
    walk_at "wp"
    rw [x_tupL up_same]
    exact ret_at (Sub.new np) h
theorem law_stretches {G : Gm} (hD : Draws G) (hG3 : G.fn 103 = some ⟨3, 3, IR.law_pick⟩) (hG : G.fn 104 = some ⟨3, 8, IR.law_stretches⟩) (n : Nat) (ns : List Int) {t : Addr} {k : Nat} {m : Int} {A : AH} {Q : QE} {E : XQ} (ht : A t = some (tw k)) (hk : k < 90000) (hm : 0 ≤ m) (hm2 : m < 1000) (h : ∀ xs k', (∀ p ∈ xs, okSt p) → (xs.length : Int) ≤ m → k ≤ k' → (k' : Int) ≤ k + 2 + 3 * m → Q (spd xs) (up A t (tw k'))) : callN G (n + 3) 104 [.rol (ns.map .int), .ref t, .int m] A Q E := by
  refine callN_mk hG rfl ?_
  unfold IR.law_stretches
  walk_at "wp"
  refine hD _ ns ht (by omega) (by omega) fun r0 _ _ => ?_
  walk_at "wp"
  refine hD _ ns up_same (by omega) (by omega) fun r h0 h1 => ?_
  rw [up_up]
  walk_at "wp"
  refine ⟨by omega, ?_⟩
  refine for_inv (fun j δ B => ∃ xs k' d5 d6 d7, δ = [some (.rol (ns.map .int)), some (.ref t), some (.int m), some (spd xs), some (.bl (decide (r0 = 0))), d5, d6, d7] ∧ (∀ p ∈ xs, okSt p) ∧ xs.length = j ∧ k ≤ k' ∧ k' ≤ k + 2 + 3 * j ∧ DL.Sub (up A t (tw k')) B) (rgD 0 r) 0 ?_ ⟨[], k + 2, none, none, none, rfl, by simp, rfl, by omega, by omega, DL.Sub.refl _⟩ ?_
  · rintro i x δ B N hi ⟨xs, k', d5, d6, d7, rfl, hx, hl, hk1, hk2, hs⟩ hN
    refine ⟨True.intro, ?_⟩
    obtain ⟨rfl, hlt⟩ := rgD_get hi
    rw [Nat.zero_add] at hN hl hk2
    unfold IR.law_stretches_b1
    walk_at "wp"
    intro p np
    have hs1 := gr_new (o := .lst [.int 100, .int 24]) hs np
    have e : ∃ w : Int, L2.atI [D.int 100, D.int 24] (if decide (r0 = 0) = true then 1 else 0) = some (.int w) ∧ 0 < w ∧ w ≤ 100 := by
      split
      · exact ⟨24, atI1 _ _ _, by decide, by decide⟩
      · exact ⟨100, atI0 _ _, by decide, by decide⟩
    obtain ⟨w, ew, hw0, hw1⟩ := e
    rw [x_ixL up_same ew]
    refine hD _ ns (gr_t hs1) (by omega) hw0 fun r1 h10 h11 => ?_
    have hs2 := gr_up (u := tw (k' + 1)) hs1
    walk_at "wp"
    refine ⟨by decide, ?_⟩
    intro q nq
    have hs3 := gr_new (o := .lst [.int 1, .int 4, .int 12, .int 100]) hs2 nq
    have htq : t ≠ q := ne_free (gr_t hs2) nq
    refine pick_lst hD hG3 _ ns (gr_t hs3) (by omega) htq up_same (by simp) fun x hx2 => ?_
    have hs4 := gr_up (u := tw (k' + 2)) hs3
    have : ∃ v : Int, x = .int v ∧ 0 < v ∧ v ≤ 100 := by
      simp only [List.mem_cons, List.not_mem_nil, or_false] at hx2
      rcases hx2 with rfl | rfl | rfl | rfl <;> exact ⟨_, rfl, by decide, by decide⟩
    obtain ⟨v, rfl, hv0, hv1⟩ := this
    refine hD _ ns (gr_t hs4) (by omega) hv0 fun r2 h20 h21 => ?_
    have hs5 := gr_up (u := tw (k' + 3)) hs4
    walk_at "wp"
    refine ⟨by decide, ?_, ?_⟩
    · rw [List.length_map]; exact Nat.le_trans (by omega : xs.length + 1 ≤ 100000) (by decide)
    · refine hN _ _ ⟨xs ++ [(r1, if r1 + (1 + r2) < 100 then r1 + (1 + r2) else 100)], k' + 3, some (.int i), some (.int r1), some (.int (1 + r2)), ?_, ?_, ?_, ?_, ?_, hs5⟩
      · rw [spd, List.map_append]; rfl
      · intro p hp
        rcases List.mem_append.mp hp with hp | hp
        · exact hx p hp
        · rw [List.mem_singleton.mp hp]
          refine ⟨h10, ?_, ?_⟩ <;> dsimp only <;> split <;> omega
      · rw [List.length_append, hl]; rfl
      · omega
      · omega
  · rintro δ B ⟨xs, k', d5, d6, d7, rfl, hx, hl, hk1, hk2, hs⟩
    refine ⟨True.intro, ?_⟩
    rw [Nat.zero_add, rgD_len] at hl hk2
    walk_at "wp"
    exact ret_at hs (h xs k' hx (by omega) hk1 (by omega))
end DP

set_option Elab.async false
set_option linter.all false
set_option maxRecDepth 100000
namespace DP
open DL PySem
open L2 hiding prD
local macro_rules | `(tactic| walk_at "wp") => `(tactic| try simp only [startD, List.map_cons, List.map_nil, List.length_cons, List.length_nil, Nat.zero_add, Nat.reduceAdd, Nat.reduceSub, List.replicate_succ, List.replicate_zero, List.cons_append, List.nil_append, List.set_cons_zero, List.set_cons_succ, setAll, wipeD,
  wq_var0, wq_var1, wq_var2, wq_var3, wq_var4, wq_var5, wq_var6, wq_var7, wq_var8, wq_var9, wq_var10, wq_var11, wq_var12, wq_var13, wq_var14, wq_var15, wq_cst, wq_tup, wq_lst, wq_bin, wq_neg, wq_cmp, wq_chn, wq_isn, wq_isb, wq_notv, wq_andv, wq_orv, wq_ite, wq_call, wq_bi, wq_isi, wq_rgl, wq_ix, wq_cut, wq_rev, wq_comp, wq_bm, wq_nil, wq_cons, wq_on, wq_os, wq_val, wq_and, wq_or, wq_not, wq_yes, wq_snil, wq_scons, wq_set, wq_tset, wq_par, wq_sub, wq_expr, wq_if, wq_for, wq_whil, wq_ret, wq_pass, wq_cont, end_rt, end_nx,
  x_addI, x_addT, x_addS, x_sub, x_mul, x_fdiv, x_mod, x_lt, x_le, x_gt, x_ge, x_eqI, x_neI, x_bTst, x_truB, x_truN, x_truI, x_truT, x_truR, x_lenT, x_lenR, x_tupT, x_lstT, x_min2, x_max2, x_intB, x_intI, x_cutT, x_revT, x_srcT, x_srcR, x_rng1, x_rng2, x_zip, x_rgl1, x_rgl2, g_nm, g_tp, g_cons, g_nil, ty_app, ty_ext, ty_pop, ty_popi, if_true, if_false, Bool.false_eq_true, Bool.true_eq_false, Bool.not_true, Bool.not_false, len2_ok, len0_ok, true_and, isNonD])

/-! slices -/
theorem cut_from {α : Type} (xs : List α) {n : Nat} (h : n ≤ xs.length) : cutL xs (some (n : Int)) none = xs.drop n := by
  unfold cutL
  have e1 : HT.sIx xs.length 0 (some (n : Int)) = n := by
    rw [HT.sIx_nat]; omega
  have e2 : HT.sIx xs.length xs.length none = xs.length := rfl
  rw [e1, e2, List.take_of_length_le (by rw [List.length_drop]; omega)]
theorem cut_to {α : Type} (xs : List α) {n : Nat} (h : n ≤ xs.length) : cutL xs none (some (n : Int)) = xs.take n := by
  unfold cutL
  have e1 : HT.sIx xs.length xs.length (some (n : Int)) = n := by
    rw [HT.sIx_nat]; omega
  have e2 : HT.sIx xs.length 0 none = 0 := rfl
  rw [e1, e2]; rfl
/-! the checks -/
def wholeD (x : D) (lo hi : Int) : Bool := match x with | .int i => decide (lo ≤ i) && decide (i ≤ hi) | _ => false
def stB (p : Int × Int) : Bool := decide (0 ≤ p.1) && decide (p.1 ≤ 99) && decide (p.1 + 1 ≤ p.2) && decide (p.2 ≤ 100)
def stretchD (d : D) : Bool := match pr1 d with | some p => stB p | none => false
def adjB (l : PL) : Bool := (List.zipWith (fun p q : Int × Int => decide (p.2 < q.1)) l.dropLast l.tail).all id
def spreadD (d : D) : Bool := match d with | .tup ds => (match alls pr1 ds with | some l => l.all stB && adjB l | none => false) | _ => false
def isG (A : AH) (x : D) : Prop := ∃ b, isD .int A x = some b ∧ (isD .bool A x).isSome ∧ (isD .tuple A x).isSome
def isG2 (A : AH) (x : D) : Prop := isG A x ∧ ∀ ds, x = .tup ds → ∀ d ∈ ds, isG A d
/-! keys_of -/
theorem keysOf_cons (p : Int × Int) (r : PL) : keysOf (p :: r) = rgI p.1 p.2 ++ keysOf r := by unfold keysOf; rw [List.flatMap_cons]
theorem keys_loop {c : CallT} {G : Gm} {p : Addr} {x0 : Option D} {P : Pst} {A0 : AH} (np : A0 p = none) : ∀ (rest : PL) (acc : List Int) (A : AH) (d2 d3 : Option D), (∀ p ∈ rest, okSt p) → DL.Sub (up A0 p (.lst (acc.map .int))) A → acc.length + 100 * rest.length < sizeLine →
    (∀ d2 d3 A, DL.Sub (up A0 p (.lst ((acc ++ keysOf rest).map .int))) A → P.nx [x0, some (.ref p), d2, d3] A) → dFor (.tp [.nm 2, .nm 3]) (fun _ => True) (wpSs c G IR.keys_of_b1) (prs rest) P [x0, some (.ref p), d2, d3] A
  | [], acc, A, d2, d3, _, hs, _, h => ⟨True.intro, h _ _ _ (by rw [show keysOf [] = [] from rfl, List.append_nil]; exact hs)⟩
  | y :: rest, acc, A, d2, d3, hr, hs, hz, h => by
    rw [prs, List.map_cons, for_cons, prD_eq]
    refine ⟨True.intro, ?_⟩
    have hy := hr y List.mem_cons_self
    have := hy.1; have := hy.2.1; have := hy.2.2
    have hl := rgI_len y.1 y.2
    rw [if_pos (by omega)] at hl
    rw [List.length_cons] at hz
    unfold IR.keys_of_b1
    walk_at "wp"
    rw [x_isL (gr_t hs)]
    refine ⟨True.intro, ⟨by omega, by omega, by omega, by omega, by omega⟩, ?_⟩
    intro q nq
    have hpq : p ≠ q := ne_free (gr_t hs) nq
    have e1 : up A q (.lst (rgD y.1 y.2)) p = some (.lst (acc.map .int)) := by rw [up_ne hpq]; exact gr_t hs
    rw [rgD_eq] at e1 ⊢
    walk_at "wp"
    rw [x_ext e1 up_same]
    refine ⟨by rw [List.length_map, List.length_map]; omega, ?_⟩
    have hs2 := gr_up (u := .lst ((acc ++ rgI y.1 y.2).map .int)) (gr_new (o := .lst ((rgI y.1 y.2).map .int)) hs nq)
    rw [List.map_append] at hs2
    refine keys_loop np rest (acc ++ rgI y.1 y.2) _ _ _ (fun q hq => hr q (List.mem_cons_of_mem _ hq)) ?_ (by rw [List.length_append]; omega) fun d2 d3 A' hs' => ?_
    · rw [List.map_append]; exact hs2
    · refine h d2 d3 A' ?_
      rw [keysOf_cons, ← List.append_assoc]; exact hs'
theorem keys_of_tup {G : Gm} (hG : G.fn 8 = some ⟨1, 4, IR.keys_of⟩) (n : Nat) (l : PL) (hl : ∀ p ∈ l, okSt p) (hz : l.length < 100000) {A : AH} {Q : QE} {E : XQ} (h : Q (.tup ((keysOf l).map .int)) A) : callN G (n + 1) 8 [spd l] A Q E := by
  refine callN_mk hG rfl ?_
  unfold IR.keys_of
  walk_at "wp"
  intro p np
  walk_at "wp"
  refine keys_loop np l [] _ none none hl (DL.Sub.refl _) (by show 0 + 100 * l.length < 2 ^ 24; omega) fun d2 d3 A' hs => ?_
  walk_at "wp"
  rw [x_tupL (gr_t hs)]
  exact ret_at ((DL.Sub.new np).trans hs) h
end DP

set_option Elab.async false
set_option linter.all false
set_option maxRecDepth 100000
namespace DP
open DL PySem
open L2 hiding prD
local macro_rules | `(tactic| walk_at "wp") => `(tactic| try simp only [startD, List.map_cons, List.map_nil, List.length_cons, List.length_nil, Nat.zero_add, Nat.reduceAdd, Nat.reduceSub, List.replicate_succ, List.replicate_zero, List.cons_append, List.nil_append, List.set_cons_zero, List.set_cons_succ, setAll, wipeD,
  wq_var0, wq_var1, wq_var2, wq_var3, wq_var4, wq_var5, wq_var6, wq_var7, wq_var8, wq_var9, wq_var10, wq_var11, wq_var12, wq_var13, wq_var14, wq_var15, wq_cst, wq_tup, wq_lst, wq_bin, wq_neg, wq_cmp, wq_chn, wq_isn, wq_isb, wq_notv, wq_andv, wq_orv, wq_ite, wq_call, wq_bi, wq_isi, wq_rgl, wq_ix, wq_cut, wq_rev, wq_comp, wq_bm, wq_nil, wq_cons, wq_on, wq_os, wq_val, wq_and, wq_or, wq_not, wq_yes, wq_snil, wq_scons, wq_set, wq_tset, wq_par, wq_sub, wq_expr, wq_if, wq_for, wq_whil, wq_ret, wq_pass, wq_cont, end_rt, end_nx,
  x_addI, x_addT, x_addS, x_sub, x_mul, x_fdiv, x_mod, x_lt, x_le, x_gt, x_ge, x_eqI, x_neI, x_bTst, x_truB, x_truN, x_truI, x_truT, x_truR, x_lenT, x_lenR, x_tupT, x_lstT, x_min2, x_max2, x_intB, x_intI, x_cutT, x_revT, x_srcT, x_srcR, x_rng1, x_rng2, x_zip, x_rgl1, x_rgl2, g_nm, g_tp, g_cons, g_nil, ty_app, ty_ext, ty_pop, ty_popi, if_true, if_false, Bool.false_eq_true, Bool.true_eq_false, Bool.not_true, Bool.not_false, len2_ok, len0_ok, true_and, isNonD])

theorem x_eqB {a b : Bool} {A : AH} {Q : QE} : dCmp .eq (.bl a) (.bl b) A Q = Q (.bl (a == b)) A := by cases a <;> cases b <;> rfl
mutual
def smp : Nat → D → Prop
  | _, .non => True
  | _, .bl _ => True
  | _, .int _ => True
  | n + 1, .tup ds => ds.length ≤ 100000 ∧ smps n ds
  | _, _ => False
def smps : Nat → List D → Prop
  | _, [] => True
  | n, d :: ds => smp n d ∧ smps n ds
end
end DP

set_option Elab.async false
set_option linter.all false
set_option maxRecDepth 100000
namespace DP
open DL PySem
open L2 hiding prD
local macro_rules | `(tactic| walk_at "wp") => `(tactic| try simp only [startD, List.map_cons, List.map_nil, List.length_cons, List.length_nil, Nat.zero_add, Nat.reduceAdd, Nat.reduceSub, List.replicate_succ, List.replicate_zero, List.cons_append, List.nil_append, List.set_cons_zero, List.set_cons_succ, setAll, wipeD,
  wq_var0, wq_var1, wq_var2, wq_var3, wq_var4, wq_var5, wq_var6, wq_var7, wq_var8, wq_var9, wq_var10, wq_var11, wq_var12, wq_var13, wq_var14, wq_var15, wq_cst, wq_tup, wq_lst, wq_bin, wq_neg, wq_cmp, wq_chn, wq_isn, wq_isb, wq_notv, wq_andv, wq_orv, wq_ite, wq_call, wq_bi, wq_isi, wq_rgl, wq_ix, wq_cut, wq_rev, wq_comp, wq_bm, wq_nil, wq_cons, wq_on, wq_os, wq_val, wq_and, wq_or, wq_not, wq_yes, wq_snil, wq_scons, wq_set, wq_tset, wq_par, wq_sub, wq_expr, wq_if, wq_for, wq_whil, wq_ret, wq_pass, wq_cont, end_rt, end_nx,
  x_addI, x_addT, x_addS, x_sub, x_mul, x_fdiv, x_mod, x_lt, x_le, x_gt, x_ge, x_eqI, x_neI, x_bTst, x_truB, x_truN, x_truI, x_truT, x_truR, x_lenT, x_lenR, x_tupT, x_lstT, x_min2, x_max2, x_intB, x_intI, x_cutT, x_revT, x_srcT, x_srcR, x_rng1, x_rng2, x_zip, x_rgl1, x_rgl2, g_nm, g_tp, g_cons, g_nil, ty_app, ty_ext, ty_pop, ty_popi, if_true, if_false, Bool.false_eq_true, Bool.true_eq_false, Bool.not_true, Bool.not_false, len2_ok, len0_ok, true_and, isNonD])

theorem kp_new {A : AH} {a p : Addr} {o u : AO} (h : A a = some o) (hp : A p = none) : up A p u a = some o := by rw [up_ne (ne_free h hp)]; exact h
theorem kp_up {A : AH} {a t : Addr} {o u : AO} (h : A a = some o) (hp : a ≠ t) : up A t u a = some o := by rw [up_ne hp]; exact h
theorem cut_to' {α : Type} (xs : List α) {n : Nat} : cutL xs none (some (n : Int)) = xs.take n := by
  by_cases h : n ≤ xs.length
  · exact cut_to xs h
  · rw [List.take_of_length_le (by omega)]
    unfold cutL
    rw [show HT.sIx xs.length 0 none = 0 from rfl, HT.sIx_nat, List.drop_zero, List.take_of_length_le (by omega)]
end DP

set_option Elab.async false
set_option linter.all false
set_option maxRecDepth 100000
namespace DP
open DL PySem
open L2 hiding prD
local macro_rules | `(tactic| walk_at "wp") => `(tactic| try simp only [startD, List.map_cons, List.map_nil, List.length_cons, List.length_nil, Nat.zero_add, Nat.reduceAdd, Nat.reduceSub, List.replicate_succ, List.replicate_zero, List.cons_append, List.nil_append, List.set_cons_zero, List.set_cons_succ, setAll, wipeD,
  wq_var0, wq_var1, wq_var2, wq_var3, wq_var4, wq_var5, wq_var6, wq_var7, wq_var8, wq_var9, wq_var10, wq_var11, wq_var12, wq_var13, wq_var14, wq_var15, wq_cst, wq_tup, wq_lst, wq_bin, wq_neg, wq_cmp, wq_chn, wq_isn, wq_isb, wq_notv, wq_andv, wq_orv, wq_ite, wq_call, wq_bi, wq_isi, wq_rgl, wq_ix, wq_cut, wq_rev, wq_comp, wq_bm, wq_nil, wq_cons, wq_on, wq_os, wq_val, wq_and, wq_or, wq_not, wq_yes, wq_snil, wq_scons, wq_set, wq_tset, wq_par, wq_sub, wq_expr, wq_if, wq_for, wq_whil, wq_ret, wq_pass, wq_cont, end_rt, end_nx,
  x_addI, x_addT, x_addS, x_sub, x_mul, x_fdiv, x_mod, x_lt, x_le, x_gt, x_ge, x_eqI, x_neI, x_bTst, x_truB, x_truN, x_truI, x_truT, x_truR, x_lenT, x_lenR, x_tupT, x_lstT, x_min2, x_max2, x_intB, x_intI, x_cutT, x_revT, x_srcT, x_srcR, x_rng1, x_rng2, x_zip, x_rgl1, x_rgl2, g_nm, g_tp, g_cons, g_nil, ty_app, ty_ext, ty_pop, ty_popi, if_true, if_false, Bool.false_eq_true, Bool.true_eq_false, Bool.not_true, Bool.not_false, len2_ok, len0_ok, true_and, isNonD])

/-! equality of trees of ints -/
mutual
def itr : Nat → D → Prop
  | _, .int _ => True
  | n + 1, .tup ds => itrs n ds
  | _, _ => False
def itrs : Nat → List D → Prop
  | _, [] => True
  | n, d :: ds => itr n d ∧ itrs n ds
end
theorem itrs_iff {n : Nat} {ds : List D} : itrs n ds ↔ ∀ d ∈ ds, itr n d := by
  induction ds with
  | nil => simp [itrs]
  | cons d r ih => simp [itrs, ih]
theorem itr_int {n : Nat} {i : Int} : itr n (.int i) := by cases n <;> exact True.intro
theorem itr_pr {n : Nat} {p : Int × Int} : itr (n + 1) (prD p) := ⟨itr_int, itr_int, by unfold itrs; trivial⟩
theorem itr_prs {n : Nat} {l : PL} : itrs (n + 1) (prs l) := itrs_iff.mpr fun d hd => by obtain ⟨p, _, rfl⟩ := List.mem_map.mp hd; exact itr_pr
theorem itr_spd {n : Nat} {l : PL} : itr (n + 2) (spd l) := itr_prs
def EqP (A : AH) (m : Nat) (d e : D) : Prop := ∃ p q, pd A m d = some p ∧ pd A m e = some q ∧ (PyData.eqv p q = true ↔ d = e)
theorem pds_some {A : AH} {m : Nat} (ih : ∀ d e, itr m d → itr m e → EqP A m d e) : ∀ (ds : List D), itrs m ds → ∃ ps, pds (pd A m) ds = some ps
  | [], _ => ⟨[], rfl⟩
  | d :: ds, hd => by
    obtain ⟨p, q, h1, h2, _⟩ := ih d d hd.1 hd.1
    obtain ⟨ps, h3⟩ := pds_some ih ds hd.2
    exact ⟨p :: ps, by simp only [pds, h1, h3]⟩
theorem eqps {A : AH} {m : Nat} (ih : ∀ d e, itr m d → itr m e → EqP A m d e) : ∀ (ds es : List D), itrs m ds → itrs m es → ∃ ps qs, pds (pd A m) ds = some ps ∧ pds (pd A m) es = some qs ∧ (PyData.eqvAll ps qs = true ↔ ds = es)
  | [], [], _, _ => ⟨[], [], rfl, rfl, by simp [PyData.eqvAll]⟩
  | [], e :: es, _, he => by
    obtain ⟨_, q, _, h2, _⟩ := ih e e he.1 he.1
    obtain ⟨qs, h4⟩ := pds_some ih es he.2
    exact ⟨[], q :: qs, rfl, by simp only [pds, h2, h4], by simp [PyData.eqvAll]⟩
  | d :: ds, [], hd, _ => by
    obtain ⟨_, q, _, h2, _⟩ := ih d d hd.1 hd.1
    obtain ⟨qs, h4⟩ := pds_some ih ds hd.2
    exact ⟨q :: qs, [], by simp only [pds, h2, h4], rfl, by simp [PyData.eqvAll]⟩
  | d :: ds, e :: es, hd, he => by
    obtain ⟨p, q, h1, h2, h⟩ := ih d e hd.1 he.1
    obtain ⟨ps, qs, h3, h4, h5⟩ := eqps ih ds es hd.2 he.2
    exact ⟨p :: ps, q :: qs, by simp only [pds, h1, h3], by simp only [pds, h2, h4], by simp [PyData.eqvAll, h, h5]⟩
theorem eqp {A : AH} : ∀ (m : Nat) (d e : D), itr m d → itr m e → EqP A m d e
  | m, .int i, .int j, _, _ => ⟨.int i, .int j, by cases m <;> rfl, by cases m <;> rfl, by simp [PyData.eqv]⟩
  | m + 1, .int i, .tup es, _, he => by
    obtain ⟨_, qs, _, h4, _⟩ := eqps (A := A) (eqp m) es es he he
    exact ⟨.int i, .tuple qs, rfl, by simp only [pd, h4]; rfl, by simp [PyData.eqv]⟩
  | m + 1, .tup es, .int i, he, _ => by
    obtain ⟨_, qs, _, h4, _⟩ := eqps (A := A) (eqp m) es es he he
    exact ⟨.tuple qs, .int i, by simp only [pd, h4]; rfl, rfl, by simp [PyData.eqv]⟩
  | m + 1, .tup ds, .tup es, hd, he => by
    obtain ⟨ps, qs, h3, h4, h5⟩ := eqps (A := A) (eqp m) ds es hd he
    exact ⟨.tuple ps, .tuple qs, by simp only [pd, h3]; rfl, by simp only [pd, h4]; rfl, by simp [PyData.eqv, h5]⟩
  | 0, .tup _, _, hd, _ => by cases hd
  | 0, .int _, .tup _, _, he => by cases he
  | 0, .int _, .non, _, he => by cases he
  | 0, .int _, .bl _, _, he => by cases he
  | 0, .int _, .str _, _, he => by cases he
  | 0, .int _, .rol _, _, he => by cases he
  | 0, .int _, .ref _, _, he => by cases he
  | n + 1, .int _, .non, _, he => by cases he
  | n + 1, .int _, .bl _, _, he => by cases he
  | n + 1, .int _, .str _, _, he => by cases he
  | n + 1, .int _, .rol _, _, he => by cases he
  | n + 1, .int _, .ref _, _, he => by cases he
  | n + 1, .tup _, .non, _, he => by cases he
  | n + 1, .tup _, .bl _, _, he => by cases he
  | n + 1, .tup _, .str _, _, he => by cases he
  | n + 1, .tup _, .rol _, _, he => by cases he
  | n + 1, .tup _, .ref _, _, he => by cases he
  | 0, .non, _, hd, _ => by cases hd
  | 0, .bl _, _, hd, _ => by cases hd
  | 0, .str _, _, hd, _ => by cases hd
  | 0, .rol _, _, hd, _ => by cases hd
  | 0, .ref _, _, hd, _ => by cases hd
  | n + 1, .non, _, hd, _ => by cases hd
  | n + 1, .bl _, _, hd, _ => by cases hd
  | n + 1, .str _, _, hd, _ => by cases hd
  | n + 1, .rol _, _, hd, _ => by cases hd
  | n + 1, .ref _, _, hd, _ => by cases hd
theorem ne_any {d e : D} {A : AH} {Q : QE} (hd : itr 6 d) (he : itr 6 e) (h : ∀ b, (b = false ↔ d = e) → Q (.bl b) A) : dCmp .ne d e A Q := by
  obtain ⟨p, q, h1, h2, h3⟩ := eqp (A := A) 6 d e hd he
  simp only [dCmp, h1, h2]
  refine h _ ?_
  rw [← h3]; cases PyData.eqv p q <;> simp
theorem x_neB {a b : Bool} {A : AH} {Q : QE} : dCmp .ne (.bl a) (.bl b) A Q = Q (.bl (a != b)) A := by cases a <;> cases b <;> rfl
end DP

set_option Elab.async false
set_option linter.all false
set_option maxRecDepth 100000
namespace DP
open DL PySem
open L2 hiding prD
local macro_rules | `(tactic| walk_at "wp") => `(tactic| try simp only [startD, List.map_cons, List.map_nil, List.length_cons, List.length_nil, Nat.zero_add, Nat.reduceAdd, Nat.reduceSub, List.replicate_succ, List.replicate_zero, List.cons_append, List.nil_append, List.set_cons_zero, List.set_cons_succ, setAll, wipeD,
  wq_var0, wq_var1, wq_var2, wq_var3, wq_var4, wq_var5, wq_var6, wq_var7, wq_var8, wq_var9, wq_var10, wq_var11, wq_var12, wq_var13, wq_var14, wq_var15, wq_cst, wq_tup, wq_lst, wq_bin, wq_neg, wq_cmp, wq_chn, wq_isn, wq_isb, wq_notv, wq_andv, wq_orv, wq_ite, wq_call, wq_bi, wq_isi, wq_rgl, wq_ix, wq_cut, wq_rev, wq_comp, wq_bm, wq_nil, wq_cons, wq_on, wq_os, wq_val, wq_and, wq_or, wq_not, wq_yes, wq_snil, wq_scons, wq_set, wq_tset, wq_par, wq_sub, wq_expr, wq_if, wq_for, wq_whil, wq_ret, wq_pass, wq_cont, end_rt, end_nx,
  x_addI, x_addT, x_addS, x_sub, x_mul, x_fdiv, x_mod, x_lt, x_le, x_gt, x_ge, x_eqI, x_neI, x_bTst, x_truB, x_truN, x_truI, x_truT, x_truR, x_lenT, x_lenR, x_tupT, x_lstT, x_min2, x_max2, x_intB, x_intI, x_cutT, x_revT, x_srcT, x_srcR, x_rng1, x_rng2, x_zip, x_rgl1, x_rgl2, g_nm, g_tp, g_cons, g_nil, ty_app, ty_ext, ty_pop, ty_popi, if_true, if_false, Bool.false_eq_true, Bool.true_eq_false, Bool.not_true, Bool.not_false, len2_ok, len0_ok, true_and, isNonD])

/-! the later laws' own defs -/
theorem okF_snoc {l : PL} {a b : Int} (hl : okF 0 l) (h1 : endF 0 l ≤ a) (h2 : a < b) (h3 : b ≤ 100) : okF 0 (l ++ [(a, b)]) := okF_app.mpr ⟨hl, h1, h2, h3, True.intro⟩
theorem dPopi {A : AH} {p : Addr} {xs : List D} {r : Int} {Q : QE} (h : A p = some (.lst xs)) (h0 : 0 ≤ r) (h1 : r < xs.length) (hz : xs.length < 100000) (k : ∀ (j : Nat) (y : D), xs[j]? = some y → Q y (up A p (.lst (xs.eraseIdx j)))) : dBm .popi (.ref p) [.int r] A Q := by
  have e : ixN xs.length r = some r.toNat := by
    unfold ixN
    rw [if_pos h0]
    have : r.toNat < xs.length := by omega
    simp [this]
    omega
  have hi : xs[r.toNat]? = some xs[r.toNat] := List.getElem?_eq_getElem (by omega)
  simp only [dBm, h, e, hi]
  exact ⟨by omega, k _ _ hi⟩
theorem perm_erase {α : Type} (left found : List α) {j : Nat} {y : α} (h : left[j]? = some y) : (left.eraseIdx j ++ (found ++ [y])).Perm (left ++ found) := by
  obtain ⟨hj, rfl⟩ := List.getElem?_eq_some_iff.mp h
  have h1 : (left[j] :: left.eraseIdx j).Perm left := by
    rw [List.eraseIdx_eq_take_drop_succ]
    have := List.take_append_drop j left
    refine (List.perm_middle.symm).trans ?_
    rw [List.getElem_cons_drop, List.take_append_drop]
  refine List.Perm.trans ?_ (h1.append_right found)
  rw [← List.append_assoc]
  exact List.perm_append_comm
theorem erase_map {α β : Type} (f : α → β) : ∀ (l : List α) (j : Nat), (l.map f).eraseIdx j = (l.eraseIdx j).map f
  | [], _ => rfl
  | _ :: _, 0 => rfl
  | a :: l, j + 1 => by
    show f a :: (l.map f).eraseIdx j = f a :: (l.eraseIdx j).map f
    rw [erase_map f l j]
theorem mix_loop {G : Gm} {c : CallT} {α : Type} (f : α → D) (hc : ∀ {t : Addr} {k : Nat} {m : Int} {A : AH} {Q : QE} {E : XQ}, A t = some (tw k) → k < 100000 → 0 < m → (∀ r, 0 ≤ r → r < m → Q (.int r) (up A t (tw (k + 1)))) → c 102 [sc, .ref t, .int m] A Q E) {P : Pst} {t p q : Addr} {x2 : Option D} (ntp : t ≠ p) (ntq : t ≠ q) (npq : p ≠ q) {A0 : AH} : ∀ (m : Nat) (left found : List α) (k : Nat) (A : AH), left.length = m → k + left.length < 100000 → left.length + found.length < 100000 → A t = some (tw k) → A p = some (.lst (left.map f)) → A q = some (.lst (found.map f)) → (∀ a o, A0 a = some o → a ≠ t → a ≠ p → a ≠ q → A a = some o) →
    (∀ (ys : List α) A', ys.Perm (left ++ found) → A' t = some (tw (k + left.length)) → A' q = some (.lst (ys.map f)) → (∀ a o, A0 a = some o → a ≠ t → a ≠ p → a ≠ q → A' a = some o) → P.nx [some sc, some (.ref t), x2, some (.ref p), some (.ref q)] A') →
    dWhile (wpT c G (.val (.var 3))) (wpSs c G IR.law_mixed_b1) (m + 1) P [some sc, some (.ref t), x2, some (.ref p), some (.ref q)] A
  | 0, left, found, k, A, hm, hk, hz, ht, hp, hq, ho, h => by
    cases left with
    | cons a l => cases hm
    | nil =>
      unfold dWhile
      walk_at "wp"
      rw [x_truL hp]
      walk_at "wp"
      rw [if_neg (by simp)]
      exact h found A (List.Perm.refl _) ht hq ho
  | m + 1, left, found, k, A, hm, hk, hz, ht, hp, hq, ho, h => by
    have hne : (left.map f).isEmpty = false := by cases left with | nil => cases hm | cons a l => rfl
    unfold dWhile
    walk_at "wp"
    rw [x_truL hp, hne, if_pos (by rfl)]
    have ih := mix_loop (G := G) f hc (P := P) (t := t) (p := p) (q := q) (x2 := x2) ntp ntq npq (A0 := A0) m
    unfold IR.law_mixed_b1 at *
    walk_at "wp"
    rw [x_isL hq, x_isL hp, x_lenL hp]
    refine ⟨True.intro, True.intro, ?_⟩
    refine hc ht (by omega) (by rw [List.length_map]; omega) fun r h0 h1 => ?_
    rw [List.length_map] at h1
    refine dPopi (kp_up hp ntp.symm) h0 (by rw [List.length_map]; exact h1) (by rw [List.length_map]; omega) fun j y hy => ?_
    obtain ⟨z, hz2, rfl⟩ := List.getElem?_map ▸ hy |> Option.map_eq_some_iff.mp
    have hj := (List.getElem?_eq_some_iff.mp hz2).1
    have ee : (left.map f).eraseIdx j = (left.eraseIdx j).map f := erase_map f left j
    have el : (left.eraseIdx j).length = m := by rw [List.length_eraseIdx_of_lt hj]; omega
    rw [ee, x_app (kp_up (kp_up hq ntq.symm) npq.symm)]
    refine ⟨by rw [List.length_map]; exact Nat.lt_of_lt_of_le (by omega : _ < 100000) (by decide), ?_⟩
    refine ih (left.eraseIdx j) (found ++ [z]) (k + 1) _ el (by omega) (by rw [List.length_append]; simp; omega) ?_ ?_ ?_ ?_ ?_
    · rw [up_ne ntq, up_ne ntp]; exact up_same
    · rw [up_ne npq]; exact up_same
    · rw [List.map_append]; exact up_same
    · intro a o ha n1 n2 n3
      rw [up_ne n3, up_ne n2, up_ne n1]; exact ho a o ha n1 n2 n3
    · intro ys A' hys ht' hq' ho'
      exact h ys A' (hys.trans (perm_erase left found hz2)) (by rw [ht']; congr 2; omega) hq' ho'
theorem law_mixed {G : Gm} (hD : Draws G) (hG : G.fn 148 = some ⟨3, 5, IR.law_mixed⟩) {α : Type} (f : α → D) (n : Nat) (ns : List Int) (xs : List α) {t : Addr} {k : Nat} {A : AH} {Q : QE} {E : XQ} (ht : A t = some (tw k)) (hk : k < 80000) (hx : xs.length < 10000) (h : ∀ ys : List α, ys.Perm xs → Q (.tup (ys.map f)) (up A t (tw (k + xs.length)))) : callN G (n + 2) 148 [.rol (ns.map .int), .ref t, .tup (xs.map f)] A Q E := by
  refine callN_mk hG rfl ?_
  unfold IR.law_mixed
  walk_at "wp"
  intro p np
  intro q nq
  have hq := up_free.mp nq
  walk_at "wp"
  refine ⟨xs.length + 1, ?_⟩
  refine mix_loop f (fun a b c d => hD n ns a b c d) (ne_free ht np) (ne_free ht hq.2) hq.1.symm (A0 := A) xs.length xs [] k _ rfl (by omega) (by simp; omega) ?_ ?_ up_same ?_ ?_
  · exact kp_new (kp_new ht np) nq
  · exact kp_new up_same nq
  · intro a o ha n1 n2 n3
    exact kp_new (kp_new ha np) nq
  · intro ys A' hp ht' hq' ho'
    walk_at "wp"
    rw [x_tupL hq']
    refine ret_at ?_ (h ys (by rw [List.append_nil] at hp; exact hp))
    intro a o ha
    by_cases e : a = t
    · subst e; rw [up_same] at ha; cases ha; exact ht'
    · rw [up_ne e] at ha
      exact ho' a o ha e (ne_up ha np) (ne_up ha hq.2)
theorem prs_inj : ∀ {l m : PL}, prs l = prs m → l = m
  | [], [], _ => rfl
  | [], _ :: _, h => by cases h
  | _ :: _, [], h => by cases h
  | p :: l, q :: m, h => by
    have h := List.cons.inj h
    rw [prs_inj h.2]
    have e : prD p = prD q := h.1
    unfold prD at e
    injection e with e
    injection e with e1 e2
    injection e2 with e2
    injection e1 with e1
    injection e2 with e2
    rw [show p = q from Prod.ext e1 e2]
end DP

set_option Elab.async false
set_option linter.all false
set_option maxRecDepth 100000
namespace DP
open DL PySem
open L2 hiding prD
local macro_rules | `(tactic| walk_at "wp") => `(tactic| try simp only [startD, List.map_cons, List.map_nil, List.length_cons, List.length_nil, Nat.zero_add, Nat.reduceAdd, Nat.reduceSub, List.replicate_succ, List.replicate_zero, List.cons_append, List.nil_append, List.set_cons_zero, List.set_cons_succ, setAll, wipeD,
  wq_var0, wq_var1, wq_var2, wq_var3, wq_var4, wq_var5, wq_var6, wq_var7, wq_var8, wq_var9, wq_var10, wq_var11, wq_var12, wq_var13, wq_var14, wq_var15, wq_cst, wq_tup, wq_lst, wq_bin, wq_neg, wq_cmp, wq_chn, wq_isn, wq_isb, wq_notv, wq_andv, wq_orv, wq_ite, wq_call, wq_bi, wq_isi, wq_rgl, wq_ix, wq_cut, wq_rev, wq_comp, wq_bm, wq_nil, wq_cons, wq_on, wq_os, wq_val, wq_and, wq_or, wq_not, wq_yes, wq_snil, wq_scons, wq_set, wq_tset, wq_par, wq_sub, wq_expr, wq_if, wq_for, wq_whil, wq_ret, wq_pass, wq_cont, end_rt, end_nx,
  x_addI, x_addT, x_addS, x_sub, x_mul, x_fdiv, x_mod, x_lt, x_le, x_gt, x_ge, x_eqI, x_neI, x_bTst, x_truB, x_truN, x_truI, x_truT, x_truR, x_lenT, x_lenR, x_tupT, x_lstT, x_min2, x_max2, x_intB, x_intI, x_cutT, x_revT, x_srcT, x_srcR, x_rng1, x_rng2, x_zip, x_rgl1, x_rgl2, g_nm, g_tp, g_cons, g_nil, ty_app, ty_ext, ty_pop, ty_popi, if_true, if_false, Bool.false_eq_true, Bool.true_eq_false, Bool.not_true, Bool.not_false, len2_ok, len0_ok, true_and, isNonD])

/-! joined, met, turned out, without: one form of the keys -/
def jn (l m : PL) : PL := formOf fun k => hasD l k || hasD m k
def mt (l m : PL) : PL := formOf fun k => hasD l k && hasD m k
def tn (l : PL) (a b : Int) : PL := formOf fun k => decide (a ≤ k) && decide (k < b) && !hasD l k
def wo (l m : PL) : PL := formOf fun k => hasD l k && !hasD m k
theorem form_has' {f : Int → Bool} (h : ∀ k, f k = true → 0 ≤ k ∧ k < 100) (k : Int) : hasD (formOf f) k = f k := by
  rw [form_has]
  cases e : f k with
  | false => rw [Bool.and_false]
  | true => have := h k e; rw [decide_eq_true this.1, decide_eq_true this.2]; rfl
theorem okF_rg {l : PL} (h : okF 0 l) {k : Int} (e : hasD l k = true) : 0 ≤ k ∧ k < 100 := ⟨okF_low h e, okF_top h e⟩
theorem mt_ok (l m : PL) : okF 0 (mt l m) := form_ok _
theorem tn_ok (l : PL) (a b : Int) : okF 0 (tn l a b) := form_ok _
theorem wo_ok (l m : PL) : okF 0 (wo l m) := form_ok _
theorem mt_has {l m : PL} (hl : okF 0 l) (k : Int) : hasD (mt l m) k = (hasD l k && hasD m k) := form_has' (fun k h => okF_rg hl (Bool.and_eq_true _ _ ▸ h).1) k
theorem tn_has {l : PL} {a b : Int} (ha : 0 ≤ a) (hb : b ≤ 100) (k : Int) : hasD (tn l a b) k = (decide (a ≤ k) && decide (k < b) && !hasD l k) := form_has' (fun k h => by
  simp only [Bool.and_eq_true, decide_eq_true_eq] at h; omega) k
theorem okF_len' {l : PL} (h : okF 0 l) : l.length ≤ 50 := by have := okF_len h (by decide); omega
theorem is_form {f : Int → Bool} {r : PL} (hr : okF 0 r) (h : ∀ k, 0 ≤ k → k < 100 → f k = hasD r k) : r = formOf f := (form_eq hr h).symm
theorem met_ok {G : Gm} (hG4 : G.fn 4 = some ⟨1, 4, IR.spread_of⟩) (hG : G.fn 10 = some ⟨2, 7, IR.met⟩) (n : Nat) {l m : PL} (hl : okF 0 l) (hm : okF 0 m) {A : AH} {Q : QE} {E : XQ} (h : Q (spd (mt l m)) A) : callN G (n + 2) 10 [spd l, spd m] A Q E := by
  have hll := okF_len' hl; have hml := okF_len' hm
  refine callN_mk hG rfl ?_
  unfold IR.met
  walk_at "wp"
  intro p np
  walk_at "wp"
  refine for_inv (fun j δ B => ∃ found d3 d4 d5 d6, δ = [some (spd l), some (spd m), some (.ref p), d3, d4, d5, d6] ∧ B = up A p (.lst (prs found)) ∧ (∀ p ∈ found, okSt p) ∧ found.length ≤ j * 50 ∧ ∀ k, hasD found k = (hasD (l.take j) k && hasD m k)) (prs l) 0 ?_ ⟨[], none, none, none, none, rfl, rfl, by simp, by simp, fun _ => rfl⟩ ?_
  · rintro i x δ B N hi ⟨found, d3, d4, d5, d6, rfl, rfl, hf, hfl, hfk⟩ hN
    refine ⟨True.intro, ?_⟩
    obtain ⟨⟨a, b⟩, hy, rfl⟩ := List.getElem?_map ▸ hi |> Option.map_eq_some_iff.mp
    have hil := (List.getElem?_eq_some_iff.mp hy).1
    have hyo := okF_st hl (Int.le_refl _) (a, b) (List.mem_of_getElem? hy)
    rw [Nat.zero_add] at hN hfl hfk
    rw [prD_eq]
    unfold IR.met_b2
    walk_at "wp"
    refine for_inv (fun j δ B => ∃ found d5 d6, δ = [some (spd l), some (spd m), some (.ref p), some (.int a), some (.int b), d5, d6] ∧ B = up A p (.lst (prs found)) ∧ (∀ p ∈ found, okSt p) ∧ found.length ≤ i * 50 + j ∧ ∀ k, hasD found k = ((hasD (l.take i) k && hasD m k) || ((decide (a ≤ k) && decide (k < b)) && hasD (m.take j) k))) (prs m) 0 ?_ ⟨found, d5, d6, rfl, rfl, hf, by omega, fun k => by rw [hfk, List.take_zero, hasD_nil, Bool.and_false, Bool.or_false]⟩ ?_
    · rintro j x δ B M hj ⟨found, d5, d6, rfl, rfl, hf, hfl, hfk⟩ hM
      refine ⟨True.intro, ?_⟩
      obtain ⟨⟨c, d⟩, hz, rfl⟩ := List.getElem?_map ▸ hj |> Option.map_eq_some_iff.mp
      have hjl := (List.getElem?_eq_some_iff.mp hz).1
      have hzo := okF_st hm (Int.le_refl _) (c, d) (List.mem_of_getElem? hz)
      rw [Nat.zero_add] at hM hfl hfk
      rw [prD_eq]
      unfold IR.met_b1
      walk_at "wp"
      generalize hs : (if c > a then c else a) = s
      generalize he : (if d < b then d else b) = e
      have hs' : s = max a c := by rw [← hs]; split <;> omega
      have he' : e = min b d := by rw [← he]; split <;> omega
      have q1 : 0 ≤ a := hyo.1
      have q2 : b ≤ 100 := hyo.2.2
      have tk : ∀ k, hasD (m.take (j + 1)) k = (hasD (m.take j) k || (decide (c ≤ k) && decide (k < d))) := fun k => by
        rw [List.take_add_one, hz, hasD_app]
        show (_ || hasD [(c, d)] k) = _
        rw [hasD_cons, hasD_nil, Bool.or_false]
      have tk2 : ∀ k, ((decide (a ≤ k) && decide (k < b)) && (decide (c ≤ k) && decide (k < d))) = (decide (s ≤ k) && decide (k < e)) := fun k => by
        rw [Bool.eq_iff_iff]; simp only [Bool.and_eq_true, decide_eq_true_eq]; omega
      cases hc : decide (s < e) with
      | true =>
        have hc := of_decide_eq_true hc
        rw [if_pos rfl, x_isL up_same, x_app up_same, up_up]
        refine ⟨True.intro, by rw [List.length_map]; exact Nat.lt_of_lt_of_le (by omega : _ < 100000) (by decide), ?_⟩
        refine hM _ _ ⟨found ++ [(s, e)], some (.int c), some (.int d), rfl, by rw [prs, prs, List.map_append]; rfl, fun p hp => ?_, by rw [List.length_append]; simp; omega, fun k => ?_⟩
        · rcases List.mem_append.mp hp with hp | hp
          · exact hf p hp
          · rw [List.mem_singleton.mp hp]; exact ⟨by dsimp only; omega, by dsimp only; omega, by dsimp only; omega⟩
        · rw [hasD_app, hfk, tk, Bool.and_or_distrib_left, tk2, hasD_cons, hasD_nil, Bool.or_false, Bool.or_assoc]
      | false =>
        have hc := of_decide_eq_false hc
        rw [if_neg (by decide)]
        refine hM _ _ ⟨found, some (.int c), some (.int d), rfl, rfl, hf, by omega, fun k => ?_⟩
        rw [hfk, tk, Bool.and_or_distrib_left, tk2, show (decide (s ≤ k) && decide (k < e)) = false by rw [Bool.eq_false_iff]; simp; omega, Bool.or_false]
    · rintro δ B ⟨found, d5, d6, rfl, rfl, hf, hfl, hfk⟩
      refine ⟨True.intro, ?_⟩
      rw [Nat.zero_add, show (prs m).length = m.length from List.length_map _] at hfl hfk
      walk_at "wp"
      refine hN _ _ ⟨found, _, _, _, _, rfl, rfl, hf, by omega, fun k => ?_⟩
      rw [hfk, List.take_length, List.take_add_one, hy, hasD_app]
      show _ = ((_ || hasD [(a, b)] k) && _)
      rw [hasD_cons, hasD_nil, Bool.or_false, Bool.and_or_distrib_right]
  · rintro δ B ⟨found, d3, d4, d5, d6, rfl, rfl, hf, hfl, hfk⟩
    refine ⟨True.intro, ?_⟩
    rw [Nat.zero_add, show (prs l).length = l.length from List.length_map _] at hfl hfk
    rw [List.take_length] at hfk
    walk_at "wp"
    refine spread_of_lst hG4 n found up_same (by omega) (ret_at (DL.Sub.new np) ?_)
    rw [spreadOf_eq (l := mt l m) hf (mt_ok l m) fun k => by rw [hfk, mt_has hl]]
    exact h
structure TI (l : PL) (a b : Int) (pre found : PL) (here : Int) : Prop where
  ok : okF 0 found
  en : endF 0 found ≤ here
  has : ∀ k, hasD found k = true ↔ a ≤ k ∧ k < b ∧ k < here ∧ hasD pre k = false
  bef : ∀ k, hasD pre k = true → k < here
  lo : a ≤ here
  hi : here = a ∨ here < endF 0 pre
theorem TI.step {l : PL} {a b : Int} {pre found : PL} {here s e : Int} (h : TI l a b pre found here) (ha : 0 ≤ a) (hb : b ≤ 100) (h1 : endF 0 pre ≤ s) (h2 : s < e) : TI l a b (pre ++ [(s, e)]) (if here < s ∧ here < b then found ++ [(here, if b < s then b else s)] else found) (if e > here then e else here) := by
  have hsd : ∀ k, hasD (pre ++ [(s, e)]) k = false ↔ hasD pre k = false ∧ ¬ (s ≤ k ∧ k < e) := fun k => by
    rw [hasD_app, hasD_cons, hasD_nil, Bool.or_false]
    cases hasD pre k <;> simp <;> omega
  have hst : ∀ k, hasD (pre ++ [(s, e)]) k = true ↔ hasD pre k = true ∨ (s ≤ k ∧ k < e) := fun k => by
    rw [hasD_app, hasD_cons, hasD_nil, Bool.or_false]
    cases hasD pre k <;> simp
  have := h.lo
  have hpf : ∀ k, here ≤ k → hasD pre k = false := fun k hk => by
    rw [Bool.eq_false_iff]; intro hh; have := h.bef k hh; omega
  refine ⟨?_, ?_, fun k => ?_, fun k hk => ?_, by split <;> omega, ?_⟩
  · split
    · next c => exact okF_snoc h.ok h.en (by split <;> omega) (by split <;> omega)
    · exact h.ok
  · have := h.en
    split
    · next c => rw [endF_app]; show (if b < s then b else s) + 1 ≤ _; split <;> split <;> omega
    · split <;> omega
  · rw [hsd]
    have hk0 := h.has k
    split
    · next c =>
      rw [hasD_app, Bool.or_eq_true, hk0]
      have e1 : hasD [(here, if b < s then b else s)] k = true ↔ here ≤ k ∧ k < s ∧ k < b := by
        rw [hasD_consT]
        simp [hasD_nil]
        split <;> omega
      rw [e1, if_pos (by omega)]
      constructor
      · rintro (⟨x1, x2, x3, x4⟩ | ⟨x1, x2, x3⟩)
        · exact ⟨x1, x2, by omega, x4, by omega⟩
        · exact ⟨by omega, x3, by omega, hpf k x1, by omega⟩
      · rintro ⟨x1, x2, x3, x4, x5⟩
        by_cases hk : k < here
        · exact .inl ⟨x1, x2, hk, x4⟩
        · exact .inr ⟨by omega, by omega, x2⟩
    · next c =>
      rw [hk0]
      constructor
      · rintro ⟨x1, x2, x3, x4⟩
        refine ⟨x1, x2, by split <;> omega, x4, ?_⟩
        rintro ⟨x5, x6⟩
        rcases h.hi with x | x <;> omega
      · rintro ⟨x1, x2, x3, x4, x5⟩
        refine ⟨x1, x2, ?_, x4⟩
        revert x3; split <;> intro x3 <;> omega
  · rcases (hst k).mp hk with hk | hk
    · have := h.bef k hk; split <;> omega
    · split <;> omega
  · rw [endF_app]
    show _ ∨ _ < e + 1
    rcases h.hi with x | x <;> split <;> omega
theorem TI.fin {l : PL} {a b : Int} {found : PL} {here : Int} (h : TI l a b l found here) (ha : 0 ≤ a) (hb : b ≤ 100) : (if here < b then found ++ [(here, b)] else found) = tn l a b := by
  refine is_form ?_ fun k h0 h1 => ?_
  · split
    · next c => exact okF_snoc h.ok h.en c hb
    · exact h.ok
  · have hk0 := h.has k
    have := h.lo
    rw [Bool.eq_iff_iff]
    split
    · next c =>
      rw [hasD_app, Bool.or_eq_true, hk0, hasD_consT]
      simp only [Bool.and_eq_true, decide_eq_true_eq, Bool.not_eq_true', hasD_nil, Bool.false_eq_true, or_false]
      constructor
      · rintro ⟨⟨x1, x2⟩, x3⟩
        by_cases hk : k < here
        · exact .inl ⟨x1, x2, hk, x3⟩
        · exact .inr ⟨by omega, by omega⟩
      · rintro (⟨x1, x2, x3, x4⟩ | ⟨x1, x2⟩)
        · exact ⟨⟨x1, x2⟩, x4⟩
        · refine ⟨⟨by omega, by omega⟩, ?_⟩
          rw [Bool.eq_false_iff]; intro hh; have := h.bef k hh; omega
    · next c =>
      rw [hk0]
      simp only [Bool.and_eq_true, decide_eq_true_eq, Bool.not_eq_true']
      constructor
      · rintro ⟨⟨x1, x2⟩, x3⟩; exact ⟨x1, x2, by omega, x3⟩
      · rintro ⟨x1, x2, x3, x4⟩; exact ⟨⟨x1, x2⟩, x4⟩
theorem okF_split {l : PL} (hl : okF 0 l) {i : Nat} {y : Int × Int} (hy : l[i]? = some y) : endF 0 (l.take i) ≤ y.1 ∧ y.1 < y.2 ∧ y.2 ≤ 100 ∧ l.take (i + 1) = l.take i ++ [y] ∧ endF 0 (l.take (i + 1)) = y.2 + 1 ∧ okF 0 (l.take i) := by
  have e1 : l.take (i + 1) = l.take i ++ [y] := by rw [List.take_add_one, hy]; rfl
  have h2 : okF 0 (l.take (i + 1) ++ l.drop (i + 1)) := by rw [List.take_append_drop]; exact hl
  have h3 := (okF_app.mp h2).1
  rw [e1] at h3
  have h4 := okF_app.mp h3
  exact ⟨h4.2.1, h4.2.2.1, h4.2.2.2.1, e1, by rw [e1, endF_app]; rfl, h4.1⟩
theorem turned_out_ok {G : Gm} (hG : G.fn 11 = some ⟨3, 7, IR.turned_out⟩) (n : Nat) {l : PL} {a b : Int} (hl : okF 0 l) (ha : 0 ≤ a) (hb : b ≤ 100) {A : AH} {Q : QE} {E : XQ} (h : Q (spd (tn l a b)) A) : callN G (n + 1) 11 [spd l, .int a, .int b] A Q E := by
  have hll := okF_len' hl
  refine callN_mk hG rfl ?_
  unfold IR.turned_out
  walk_at "wp"
  intro p np
  walk_at "wp"
  refine for_inv (fun j δ B => ∃ found here d5 d6, δ = [some (spd l), some (.int a), some (.int b), some (.ref p), some (.int here), d5, d6] ∧ B = up A p (.lst (prs found)) ∧ found.length ≤ j ∧ TI l a b (l.take j) found here) (prs l) 0 ?_ ⟨[], a, none, none, rfl, rfl, by simp, True.intro, ha, fun k => by simp [hasD_nil]; omega, fun k hk => by simp [hasD_nil] at hk, Int.le_refl _, .inl rfl⟩ ?_
  · rintro i x δ B N hi ⟨found, here, d5, d6, rfl, rfl, hfl, ti⟩ hN
    refine ⟨True.intro, ?_⟩
    obtain ⟨⟨s, e⟩, hy, rfl⟩ := List.getElem?_map ▸ hi |> Option.map_eq_some_iff.mp
    have hil := (List.getElem?_eq_some_iff.mp hy).1
    rw [Nat.zero_add] at hN hfl ti
    obtain ⟨h1, h2, h3, h4, h5, h6⟩ := okF_split hl hy
    have st := ti.step ha hb h1 h2
    rw [← h4] at st
    rw [prD_eq]
    unfold IR.turned_out_b1
    walk_at "wp"
    cases c1 : decide (here < s) with
    | false =>
      have c1 := of_decide_eq_false c1
      rw [if_neg (by omega)] at st
      simp only [Bool.false_eq_true, if_false]
      exact hN _ _ ⟨found, _, _, _, rfl, rfl, by omega, st⟩
    | true =>
      have c1 := of_decide_eq_true c1
      simp only [if_true]
      cases c2 : decide (here < b) with
      | false =>
        have c2 := of_decide_eq_false c2
        rw [if_neg (by omega)] at st
        simp only [Bool.false_eq_true, if_false]
        exact hN _ _ ⟨found, _, _, _, rfl, rfl, by omega, st⟩
      | true =>
        have c2 := of_decide_eq_true c2
        rw [if_pos ⟨c1, c2⟩] at st
        simp only [if_true]
        rw [x_isL up_same, x_app up_same, up_up]
        refine ⟨True.intro, by rw [List.length_map]; exact Nat.lt_of_lt_of_le (by omega : _ < 100000) (by decide), ?_⟩
        exact hN _ _ ⟨_, _, _, _, rfl, by rw [prs, prs, List.map_append]; rfl, by rw [List.length_append]; simp; omega, st⟩
  · rintro δ B ⟨found, here, d5, d6, rfl, rfl, hfl, ti⟩
    refine ⟨True.intro, ?_⟩
    rw [Nat.zero_add, show (prs l).length = l.length from List.length_map _] at hfl ti
    rw [List.take_length] at ti
    have fi := ti.fin ha hb
    walk_at "wp"
    cases c2 : decide (here < b) with
    | false =>
      have c2 := of_decide_eq_false c2
      rw [if_neg c2] at fi
      simp only [Bool.false_eq_true, if_false]
      rw [x_tupL up_same]
      rw [fi]
      exact ret_at (DL.Sub.new np) h
    | true =>
      have c2 := of_decide_eq_true c2
      rw [if_pos c2] at fi
      simp only [if_true]
      rw [x_isL up_same, x_app up_same, up_up, x_tupL up_same]
      refine ⟨True.intro, by rw [List.length_map]; exact Nat.lt_of_lt_of_le (by omega : _ < 100000) (by decide), ?_⟩
      rw [← fi] at h
      refine ret_at (DL.Sub.new np) ?_
      rw [spd, List.map_append] at h
      exact h
end DP

set_option Elab.async false
set_option linter.all false
set_option maxRecDepth 100000
namespace DP
open DL PySem
open L2 hiding prD
local macro_rules | `(tactic| walk_at "wp") => `(tactic| try simp only [startD, List.map_cons, List.map_nil, List.length_cons, List.length_nil, Nat.zero_add, Nat.reduceAdd, Nat.reduceSub, List.replicate_succ, List.replicate_zero, List.cons_append, List.nil_append, List.set_cons_zero, List.set_cons_succ, setAll, wipeD,
  wq_var0, wq_var1, wq_var2, wq_var3, wq_var4, wq_var5, wq_var6, wq_var7, wq_var8, wq_var9, wq_var10, wq_var11, wq_var12, wq_var13, wq_var14, wq_var15, wq_cst, wq_tup, wq_lst, wq_bin, wq_neg, wq_cmp, wq_chn, wq_isn, wq_isb, wq_notv, wq_andv, wq_orv, wq_ite, wq_call, wq_bi, wq_isi, wq_rgl, wq_ix, wq_cut, wq_rev, wq_comp, wq_bm, wq_nil, wq_cons, wq_on, wq_os, wq_val, wq_and, wq_or, wq_not, wq_yes, wq_snil, wq_scons, wq_set, wq_tset, wq_par, wq_sub, wq_expr, wq_if, wq_for, wq_whil, wq_ret, wq_pass, wq_cont, end_rt, end_nx,
  x_addI, x_addT, x_addS, x_sub, x_mul, x_fdiv, x_mod, x_lt, x_le, x_gt, x_ge, x_eqI, x_neI, x_bTst, x_truB, x_truN, x_truI, x_truT, x_truR, x_lenT, x_lenR, x_tupT, x_lstT, x_min2, x_max2, x_intB, x_intI, x_cutT, x_revT, x_srcT, x_srcR, x_rng1, x_rng2, x_zip, x_rgl1, x_rgl2, g_nm, g_tp, g_cons, g_nil, ty_app, ty_ext, ty_pop, ty_popi, if_true, if_false, Bool.false_eq_true, Bool.true_eq_false, Bool.not_true, Bool.not_false, len2_ok, len0_ok, true_and, isNonD])

/-- whether one spread lies within another -/
def wi (l m : PL) : Bool := decide (wo l m = [])
theorem lacking_ok {G : Gm} (hG11 : G.fn 11 = some ⟨3, 7, IR.turned_out⟩) (hG : G.fn 14 = some ⟨3, 3, IR.lacking⟩) (n : Nat) {l : PL} {a b : Int} (hl : okF 0 l) (ha : 0 ≤ a) (hb : b ≤ 100) {A : AH} {Q : QE} {E : XQ} (h : Q (spd (tn l a b)) A) : callN G (n + 2) 14 [spd l, .int a, .int b] A Q E := by
  refine callN_mk hG rfl ?_
  unfold IR.lacking
  walk_at "wp"
  exact turned_out_ok hG11 n hl ha hb (ret_here h)
end DP

set_option Elab.async false
set_option linter.all false
set_option maxRecDepth 100000
namespace DP
open DL PySem
open L2 hiding prD
local macro_rules | `(tactic| walk_at "wp") => `(tactic| try simp only [startD, List.map_cons, List.map_nil, List.length_cons, List.length_nil, Nat.zero_add, Nat.reduceAdd, Nat.reduceSub, List.replicate_succ, List.replicate_zero, List.cons_append, List.nil_append, List.set_cons_zero, List.set_cons_succ, setAll, wipeD,
  wq_var0, wq_var1, wq_var2, wq_var3, wq_var4, wq_var5, wq_var6, wq_var7, wq_var8, wq_var9, wq_var10, wq_var11, wq_var12, wq_var13, wq_var14, wq_var15, wq_cst, wq_tup, wq_lst, wq_bin, wq_neg, wq_cmp, wq_chn, wq_isn, wq_isb, wq_notv, wq_andv, wq_orv, wq_ite, wq_call, wq_bi, wq_isi, wq_rgl, wq_ix, wq_cut, wq_rev, wq_comp, wq_bm, wq_nil, wq_cons, wq_on, wq_os, wq_val, wq_and, wq_or, wq_not, wq_yes, wq_snil, wq_scons, wq_set, wq_tset, wq_par, wq_sub, wq_expr, wq_if, wq_for, wq_whil, wq_ret, wq_pass, wq_cont, end_rt, end_nx,
  x_addI, x_addT, x_addS, x_sub, x_mul, x_fdiv, x_mod, x_lt, x_le, x_gt, x_ge, x_eqI, x_neI, x_bTst, x_truB, x_truN, x_truI, x_truT, x_truR, x_lenT, x_lenR, x_tupT, x_lstT, x_min2, x_max2, x_intB, x_intI, x_cutT, x_revT, x_srcT, x_srcR, x_rng1, x_rng2, x_zip, x_rgl1, x_rgl2, g_nm, g_tp, g_cons, g_nil, ty_app, ty_ext, ty_pop, ty_popi, if_true, if_false, Bool.false_eq_true, Bool.true_eq_false, Bool.not_true, Bool.not_false, len2_ok, len0_ok, true_and, isNonD])

/-! first_free -/
def ffO (l : PL) (long a b : Int) : Option Int := ((tn l a b).find? fun p => decide (long ≤ p.2 - p.1)).map (·.1)
def optD : Option Int → D | some k => .int k | none => .non
/-- so many keys from a key on are free, within a stretch -/
def free (l : PL) (long a b k : Int) : Prop := a ≤ k ∧ k + long ≤ b ∧ ∀ j, k ≤ j → j < k + long → hasD l j = false
/-! parts -/
def pcs (m : Int) : Nat → Int → Int → PL
  | 0, a, b => [(a, b)]
  | n + 1, a, b => if m < b - a then (a, a + m) :: pcs m n (a + m) b else [(a, b)]
def partsL (l : PL) (m : Int) : PL := l.flatMap fun p => pcs m 100 p.1 p.2
end DP

set_option Elab.async false
set_option linter.all false
set_option maxRecDepth 100000
namespace DP
open DL PySem
open L2 hiding prD
local macro_rules | `(tactic| walk_at "wp") => `(tactic| try simp only [startD, List.map_cons, List.map_nil, List.length_cons, List.length_nil, Nat.zero_add, Nat.reduceAdd, Nat.reduceSub, List.replicate_succ, List.replicate_zero, List.cons_append, List.nil_append, List.set_cons_zero, List.set_cons_succ, setAll, wipeD,
  wq_var0, wq_var1, wq_var2, wq_var3, wq_var4, wq_var5, wq_var6, wq_var7, wq_var8, wq_var9, wq_var10, wq_var11, wq_var12, wq_var13, wq_var14, wq_var15, wq_cst, wq_tup, wq_lst, wq_bin, wq_neg, wq_cmp, wq_chn, wq_isn, wq_isb, wq_notv, wq_andv, wq_orv, wq_ite, wq_call, wq_bi, wq_isi, wq_rgl, wq_ix, wq_cut, wq_rev, wq_comp, wq_bm, wq_nil, wq_cons, wq_on, wq_os, wq_val, wq_and, wq_or, wq_not, wq_yes, wq_snil, wq_scons, wq_set, wq_tset, wq_par, wq_sub, wq_expr, wq_if, wq_for, wq_whil, wq_ret, wq_pass, wq_cont, end_rt, end_nx,
  x_addI, x_addT, x_addS, x_sub, x_mul, x_fdiv, x_mod, x_lt, x_le, x_gt, x_ge, x_eqI, x_neI, x_bTst, x_truB, x_truN, x_truI, x_truT, x_truR, x_lenT, x_lenR, x_tupT, x_lstT, x_min2, x_max2, x_intB, x_intI, x_cutT, x_revT, x_srcT, x_srcR, x_rng1, x_rng2, x_zip, x_rgl1, x_rgl2, g_nm, g_tp, g_cons, g_nil, ty_app, ty_ext, ty_pop, ty_popi, if_true, if_false, Bool.false_eq_true, Bool.true_eq_false, Bool.not_true, Bool.not_false, len2_ok, len0_ok, true_and, isNonD])

/-! asks, cost_of, waste -/
def ak1 (cost : Int) (acc : PL) (p : Int × Int) : PL := match acc.getLast? with
  | some l => if p.1 - l.2 < cost then acc.dropLast ++ [(l.1, p.2)] else acc ++ [p]
  | none => [p]
def asksL (l : PL) (cost : Int) : PL := l.foldl (ak1 cost) []
theorem ak1_nil (cost : Int) (p : Int × Int) : ak1 cost [] p = [p] := rfl
theorem ak1_snoc (cost : Int) (i : PL) (l p : Int × Int) : ak1 cost (i ++ [l]) p = if p.1 - l.2 < cost then i ++ [(l.1, p.2)] else i ++ [l] ++ [p] := by
  unfold ak1
  rw [List.getLast?_append]
  simp
theorem ak1_len (cost : Int) (acc : PL) (p : Int × Int) : (ak1 cost acc p).length ≤ acc.length + 1 := by
  rcases nil_or_snoc acc with rfl | ⟨i, l, rfl⟩
  · exact Nat.le_refl _
  · rw [ak1_snoc]; split <;> simp
def akR (cost : Int) : Int × Int → PL → PL
  | c, [] => [c]
  | c, p :: r => if p.1 - c.2 < cost then akR cost (c.1, p.2) r else c :: akR cost p r
theorem ak_fold (cost : Int) : ∀ (l i : PL) (c : Int × Int), l.foldl (ak1 cost) (i ++ [c]) = i ++ akR cost c l
  | [], i, c => rfl
  | p :: r, i, c => by
    rw [List.foldl_cons, ak1_snoc]
    unfold akR
    split
    · exact ak_fold cost r i _
    · rw [ak_fold cost r (i ++ [c]) p, List.append_assoc]; rfl
theorem asksL_cons (cost : Int) (c : Int × Int) (l : PL) : asksL (c :: l) cost = akR cost c l := by
  unfold asksL
  rw [List.foldl_cons, ak1_nil, show [c] = [] ++ [c] from rfl, ak_fold, List.nil_append]
/-- a key lies in a gap behind e that is less than the cost -/
def gp (cost : Int) : Int → PL → Int → Prop
  | _, [], _ => False
  | e, p :: r, k => (e ≤ k ∧ k < p.1 ∧ p.1 - e < cost) ∨ gp cost p.2 r k
theorem akR_ok (cost : Int) : ∀ (l : PL) (c : Int × Int) (lo : Int), lo ≤ c.1 → c.1 < c.2 → c.2 ≤ 100 → okF (c.2 + 1) l → okF lo (akR cost c l) ∧ ∀ k, hasD (akR cost c l) k = true ↔ hasD (c :: l) k = true ∨ gp cost c.2 l k
  | [], c, lo, h1, h2, h3, _ => ⟨⟨h1, h2, h3, True.intro⟩, fun k => ⟨.inl, fun h => h.elim id fun h => h.elim⟩⟩
  | p :: r, c, lo, h1, h2, h3, ⟨a, b, d, e⟩ => by
    unfold akR
    split
    · next hc =>
      obtain ⟨i1, i2⟩ := akR_ok cost r (c.1, p.2) lo h1 (by dsimp only; omega) d e
      refine ⟨i1, fun k => ?_⟩
      rw [i2, hasD_consT, hasD_consT, hasD_consT]
      show ((c.1 ≤ k ∧ k < p.2) ∨ hasD r k = true) ∨ gp cost p.2 r k ↔ _ ∨ ((c.2 ≤ k ∧ k < p.1 ∧ p.1 - c.2 < cost) ∨ gp cost p.2 r k)
      constructor
      · rintro ((h | h) | h)
        · by_cases x : k < c.2
          · exact .inl (.inl ⟨h.1, x⟩)
          · by_cases y : k < p.1
            · exact .inr (.inl ⟨by omega, y, hc⟩)
            · exact .inl (.inr (.inl ⟨by omega, h.2⟩))
        · exact .inl (.inr (.inr h))
        · exact .inr (.inr h)
      · rintro ((h | h | h) | h | h)
        · exact .inl (.inl ⟨h.1, by omega⟩)
        · exact .inl (.inl ⟨by omega, h.2⟩)
        · exact .inl (.inr h)
        · exact .inl (.inl ⟨by omega, by omega⟩)
        · exact .inr h
    · next hc =>
      obtain ⟨i1, i2⟩ := akR_ok cost r p (c.2 + 1) a b d e
      refine ⟨⟨h1, h2, h3, i1⟩, fun k => ?_⟩
      rw [hasD_consT, i2, hasD_consT (p := c)]
      show _ ∨ (_ ∨ gp cost p.2 r k) ↔ _ ∨ ((c.2 ≤ k ∧ k < p.1 ∧ p.1 - c.2 < cost) ∨ gp cost p.2 r k)
      constructor
      · rintro (h | h | h)
        · exact .inl (.inl h)
        · exact .inl (.inr h)
        · exact .inr (.inr h)
      · rintro ((h | h) | h | h)
        · exact .inl h
        · exact .inr (.inl h)
        · exact absurd h.2.2 hc
        · exact .inr (.inr h)
theorem asks_okF {l : PL} (hl : okF 0 l) (cost : Int) : okF 0 (asksL l cost) := by
  cases l with
  | nil => exact True.intro
  | cons c r => rw [asksL_cons]; exact (akR_ok cost r c 0 hl.1 hl.2.1 hl.2.2.1 hl.2.2.2).1
theorem asks_sub {l : PL} (hl : okF 0 l) (cost : Int) {k : Int} (h : hasD l k = true) : hasD (asksL l cost) k = true := by
  cases l with
  | nil => cases h
  | cons c r => rw [asksL_cons]; exact ((akR_ok cost r c 0 hl.1 hl.2.1 hl.2.2.1 hl.2.2.2).2 k).mpr (.inl h)
def costL (l : PL) (cost : Int) : Int := (l.map fun p => cost + p.2 - p.1).sum
theorem asks_loop {c : CallT} {G : Gm} {p : Addr} {x0 : Option D} {cost : Int} {P : Pst} : ∀ (rest acc : PL) (A : AH) (d3 d4 : Option D), A p = some (.lst (prs acc)) → acc.length + rest.length < 100000 →
    (∀ d3 d4, P.nx [x0, some (.int cost), some (.ref p), d3, d4] (up A p (.lst (prs (rest.foldl (ak1 cost) acc))))) → dFor (.tp [.nm 3, .nm 4]) (fun _ => True) (wpSs c G IR.asks_b1) (prs rest) P [x0, some (.int cost), some (.ref p), d3, d4] A
  | [], acc, A, d2, d3, hp, hz, h => by
    have h := h d2 d3
    rw [List.foldl_nil, up_id hp] at h
    exact ⟨True.intro, h⟩
  | y :: rest, acc, A, d2, d3, hp, hz, h => by
    rw [prs, List.map_cons, for_cons, prD_eq]
    refine ⟨True.intro, ?_⟩
    have ih := fun acc' (hz' : acc'.length + rest.length < 100000) (h' : ∀ d2 d3, P.nx [x0, some (.int cost), some (.ref p), d2, d3] (up (up A p (.lst (prs acc'))) p (.lst (prs (rest.foldl (ak1 cost) acc'))))) => asks_loop (c := c) (G := G) rest acc' (up A p (.lst (prs acc'))) (some (.int y.1)) (some (.int y.2)) up_same hz' h'
    have ih := ih (ak1 cost acc y) (by have := ak1_len cost acc y; rw [List.length_cons] at hz; omega) (by intro d2 d3; rw [up_up]; exact h d2 d3)
    unfold IR.asks_b1
    walk_at "wp"
    rw [x_truL hp]
    rw [List.length_cons] at hz
    rcases nil_or_snoc acc with rfl | ⟨i, l, rfl⟩
    · walk_at "wp"
      simp only [List.map_nil, List.isEmpty_nil, Bool.not_true, Bool.false_eq_true, if_false, x_isL hp, x_app hp, true_and, List.length_nil]
      exact ⟨by decide, ih⟩
    · rw [prs, List.map_append, List.map_singleton] at hp
      have e0 : L2.atI (List.map prD i ++ [prD l]) (-1) = some (prD l) := atI_last _ _
      rw [ak1_snoc] at ih
      simp only [List.map_append, List.map_singleton, isEmpty_snoc, Bool.not_false, if_true, x_ixL hp e0, prD_eq, x_ixT (atI1 _ _ _), x_ixT (atI0 _ _), x_lt, x_sub, x_truB, decide_eq_true_eq, wq_var3, wq_nil, wq_cons]
      split
      · next hle =>
        rw [if_pos hle] at ih
        rw [dSub_last hp]
        simp only [prs, List.map_append, List.map_singleton, prD_eq] at ih
        exact ih
      · next hle =>
        rw [if_neg hle] at ih
        simp only [x_isL hp, x_app hp, true_and]
        refine ⟨?_, ?_⟩
        · rw [List.length_append, List.length_map, List.length_singleton]
          rw [List.length_append, List.length_singleton] at hz
          exact Nat.lt_of_lt_of_le (by omega : _ < 100000) (by decide)
        · simp only [prs, List.map_append, List.map_singleton, prD_eq] at ih
          exact ih
theorem asks_ok {G : Gm} (hG : G.fn 17 = some ⟨2, 5, IR.asks⟩) (n : Nat) {l : PL} {cost : Int} (hl : okF 0 l) {A : AH} {Q : QE} {E : XQ} (h : Q (spd (asksL l cost)) A) : callN G (n + 1) 17 [spd l, .int cost] A Q E := by
  have hll := okF_len' hl
  refine callN_mk hG rfl ?_
  unfold IR.asks
  walk_at "wp"
  intro p np
  walk_at "wp"
  refine asks_loop l [] _ none none up_same (by simp; omega) fun d3 d4 => ?_
  walk_at "wp"
  rw [up_up, x_tupL up_same]
  exact ret_at (DL.Sub.new np) h
end DP

set_option Elab.async false
set_option linter.all false
set_option maxRecDepth 100000
namespace DP
open DL PySem
open L2 hiding prD
local macro_rules | `(tactic| walk_at "wp") => `(tactic| try simp only [startD, List.map_cons, List.map_nil, List.length_cons, List.length_nil, Nat.zero_add, Nat.reduceAdd, Nat.reduceSub, List.replicate_succ, List.replicate_zero, List.cons_append, List.nil_append, List.set_cons_zero, List.set_cons_succ, setAll, wipeD,
  wq_var0, wq_var1, wq_var2, wq_var3, wq_var4, wq_var5, wq_var6, wq_var7, wq_var8, wq_var9, wq_var10, wq_var11, wq_var12, wq_var13, wq_var14, wq_var15, wq_cst, wq_tup, wq_lst, wq_bin, wq_neg, wq_cmp, wq_chn, wq_isn, wq_isb, wq_notv, wq_andv, wq_orv, wq_ite, wq_call, wq_bi, wq_isi, wq_rgl, wq_ix, wq_cut, wq_rev, wq_comp, wq_bm, wq_nil, wq_cons, wq_on, wq_os, wq_val, wq_and, wq_or, wq_not, wq_yes, wq_snil, wq_scons, wq_set, wq_tset, wq_par, wq_sub, wq_expr, wq_if, wq_for, wq_whil, wq_ret, wq_pass, wq_cont, end_rt, end_nx,
  x_addI, x_addT, x_addS, x_sub, x_mul, x_fdiv, x_mod, x_lt, x_le, x_gt, x_ge, x_eqI, x_neI, x_bTst, x_truB, x_truN, x_truI, x_truT, x_truR, x_lenT, x_lenR, x_tupT, x_lstT, x_min2, x_max2, x_intB, x_intI, x_cutT, x_revT, x_srcT, x_srcR, x_rng1, x_rng2, x_zip, x_rgl1, x_rgl2, g_nm, g_tp, g_cons, g_nil, ty_app, ty_ext, ty_pop, ty_popi, if_true, if_false, Bool.false_eq_true, Bool.true_eq_false, Bool.not_true, Bool.not_false, len2_ok, len0_ok, true_and, isNonD])

/-! pieces, more -/
end DP

set_option Elab.async false
set_option linter.all false
set_option maxRecDepth 100000
/-! rows of the later constructs; lists that are values; walking by one tactic -/
namespace DL
open PySem PySem.Spec PyProof.Rows L2
section
variable {c : CallT} {G : Gm} {δ r : DSt} {A : AH} {Q : QE} {E : XQ} {QT : Bool → AH → Prop} {QA : List D → AH → Prop} {P : Pst} {x y d : D} {a b e o : IE} {es : List IE} {s : IS} {ss body bs : List IS} {t u : IT} {tg : Tg}
theorem wq_fz : wpE c G (.fz e) δ A Q E = wpE c G e δ A (fun x A1 => dFz x A1 Q) E := (rfl)
theorem wq_lk : wpE c G (.lk e) δ A Q E = ∃ a kvs, A a = some (.dk kvs) ∧ ∀ u, wpE c G e δ (up A a (.dkl kvs u)) (fun y A2 => A2 a = some (.dkl kvs u) ∧ Q y (up A2 a (.dk kvs))) (fun _ _ => False) := (rfl)
def weak : D → D | .ptp xs => .tup xs | x => x
theorem wq_wk : wpE c G (.wk e) δ A Q E = wpE c G e δ A (fun x A1 => Q (weak x) A1) E := by
  show wpE c G e δ A (fun x A1 => Q (match x with | .ptp xs => .tup xs | x => x) A1) E = _
  congr 1
theorem wq_ptl : wpE c G (.ptl e) δ A Q E = wpE c G e δ A (fun x A1 => match lstD A1 x with | some xs => Q (.ptp xs) A1 | none => False) E := (rfl)
theorem wq_ptd : wpE c G (.ptd es) δ A Q E = wpEs c G es δ A (fun ds A1 => ds.length ≤ sizeLine ∧ Q (.ptp ds) A1) E := (rfl)
theorem wq_step {k : Nat} : wpE c G (.step e k) δ A Q E = wpE c G e δ A (fun x A1 => match x with | .tup xs => 1 < k ∧ Q (.tup (stepL k xs)) A1 | _ => False) E := (rfl)
theorem wq_dic : wpE c G (.dic es) δ A Q E = wpEs c G es δ A (fun ds A1 => match kvs2 ds with | some kvs => kvs.length ≤ 15 ∧ newD A1 (mergeD [] kvs) Q | none => False) (fun _ _ => False) := (rfl)
theorem wq_rais {i : Nat} : wpS c G (.rais i) P δ A = P.ex i δ A := (rfl)
theorem wq_tryx {xs : List Nat} : wpS c G (.tryx body xs bs) P δ A = wpSs c G body ⟨P.nx, P.rt, P.ct, fun x δ' A' => x ∈ xs ∧ wpSs c G bs ⟨P.nx, P.rt, P.ct, fun _ _ _ => False⟩ δ' A'⟩ δ A := (rfl)
theorem wq_sub2 {o i o2 i2 e : IE} : wpS c G (.sub2 o i o2 i2 e) P δ A = wpE c G e δ A (fun v A1 => match v with
      | .tup [v1, v2] => wpE c G o δ A1 (fun x A2 => wpE c G i δ A2 (fun k A3 => dSub x k v1 A3 fun A4 =>
          wpE c G o2 δ A4 (fun y A5 => wpE c G i2 δ A5 (fun j A6 => dSub y j v2 A6 fun A7 => P.nx δ A7) (fun x A' => P.ex x δ A')) (fun x A' => P.ex x δ A')) (fun x A' => P.ex x δ A')) (fun x A' => P.ex x δ A')
      | _ => False) (fun x A' => P.ex x δ A') := (rfl)
theorem wq_fstr {es : List IE} : wpE c G (.fstr es) δ A Q E = wpEs c G es δ A (fun ds A1 => (∀ d ∈ ds, fmtOk d) ∧ match alls txt1 ds with | some zs => (zs.foldl (· ++ ·) Str.empty).length ≤ sizeLine ∧ (zs.map (·.length)).sum ≤ sizeLine ∧ Q (.str (zs.foldl (· ++ ·) Str.empty)) A1 | none => False) E := (rfl)
theorem wq_compx {k : SrcK} {es : List IE} {vs : List Nat} {tg : Tg} {t : IT} {e : IE} : wpE c G (.compx k es vs tg t e) δ A Q E = wpEs c G es δ A (fun ds A1 => dSrc k ds A1 fun xs g => xs.length ≤ sizeLine ∧ dCompX tg g (wpT c G t) (wpE c G e) (wipeD δ vs) xs [] A1 Q E) E := (rfl)
theorem wq_ch3 {k l m : CO} {z w : IE} : wpE c G (.ch3 k l m a b z w) δ A Q E = wpE c G a δ A (fun x A1 => wpE c G b δ A1 (fun y A2 => dCmp k x y A2 (bTst fun i A3 =>
      if i = true then wpE c G z δ A3 (fun z A4 => dCmp l y z A4 (bTst fun j A5 => if j = true then wpE c G w δ A5 (fun u A6 => dCmp m z u A6 Q) E else Q (.bl false) A5)) E else Q (.bl false) A3)) E) E := rfl
/-- what comes behind, not looked at yet -/
def later (c : CallT) (G : Gm) (ss : List IS) (P : Pst) (δ : DSt) (A : AH) : Prop := wpSs c G ss P δ A
theorem later_go (h : wpSs c G ss P δ A) : later c G ss P δ A := h
theorem wq_sl : wpSs c G (s :: ss) P δ A = wpS c G s ⟨fun δ' A' => later c G ss P δ' A', P.rt, P.ct, P.ex⟩ δ A := (rfl)
theorem wq_il : wpS c G (.iff t body bs) P δ A = wpT c G t δ A (fun k A1 => if k = true then later c G body P δ A1 else later c G bs P δ A1) (fun x A' => P.ex x δ A') := (rfl)
/-! ### lists that are values -/
variable {xs ys : List D} {i j : Int} {p : Addr} {δG : DSt} {QG : DSt → Prop} {Qs : List D → (AH → Prop) → Prop} {R : QE}
theorem fz_new (np : A p = none) : dFz (.ref p) (up A p (.lst xs)) Q = Q (.fl xs) A := by
  simp only [dFz, up_same]; rw [del_up np]
theorem fz_newD {kvs : List (Key × D)} (np : A p = none) : dFz (.ref p) (up A p (.dk kvs)) Q = Q (.rod (kvs.map (·.1)) (kvs.map (·.2))) A := by
  simp only [dFz, up_same]; rw [del_up np]
theorem newL_fz (h : Q (.fl xs) A) : newL A xs fun x A1 => dFz x A1 Q := fun p np => by
  show dFz (.ref p) (up A p (.lst xs)) Q
  rw [fz_new np]; exact h
theorem newD_fz {kvs : List (Key × D)} (h : Q (.rod (kvs.map (·.1)) (kvs.map (·.2))) A) : newD A kvs fun x A1 => dFz x A1 Q := fun p np => by
  show dFz (.ref p) (up A p (.dk kvs)) Q
  rw [fz_newD np]; exact h
theorem fz_fl : dFz (.fl xs) A Q = Q (.fl xs) A := (rfl)
theorem seq_fl : seqD A (.fl xs) = some xs := (rfl)
theorem x_srcF : dSrc .seq [.fl xs] A Qs = Qs xs (fun _ => True) := (rfl)
theorem x_zipF : dSrc .zip [.fl xs, .fl ys] A Qs = Qs (List.zipWith (fun x y => .tup [x, y]) xs ys) (fun _ => True) := (rfl)
theorem x_enumF : dSrc .enum [.fl xs] A Qs = Qs (enumD 0 xs) (fun _ => True) := (rfl)
theorem x_enumT : dSrc .enum [.tup xs] A Qs = Qs (enumD 0 xs) (fun _ => True) := (rfl)
theorem x_ezip : dSrc .ezip [.tup xs, .tup ys] A Qs = Qs (enumD 0 (List.zipWith (fun x y => .tup [x, y]) xs ys)) (fun _ => True) := (rfl)
theorem x_rng3 {k : Int} : dSrc .rng3 [.int i, .int j, .int k] A Qs = ∃ n, RgC i j k n ∧ Qs ((List.range n).map fun m => .int (i + (m : Nat) * k)) (fun _ => True) := (rfl)
theorem x_lenF : dBi .len [.fl xs] A Q = Q (.int xs.length) A := (rfl)
theorem x_tupF : dBi .tuple [.fl xs] A Q = Q (.tup xs) A := (rfl)
theorem x_lstF : dBi .list [.fl xs] A Q = newL A xs Q := (rfl)
theorem x_sumF {ns : List Int} : dBi .sum [.fl (ns.map .int)] A Q = Q (.int ns.sum) A := by simp only [dBi, lstD, alls_ints]
theorem x_allF {ns : List Bool} : dBi .all [.fl (ns.map .bl)] A Q = Q (.bl (ns.all id)) A := by simp only [dBi, lstD, alls_bls]
theorem x_anyF {ns : List Bool} : dBi .any [.fl (ns.map .bl)] A Q = Q (.bl (ns.any id)) A := by simp only [dBi, lstD, alls_bls]
theorem x_ixF (h : L2.atI xs i = some d) : dIx (.fl xs) (.int i) A Q = Q d A := by simp only [dIx, seq_fl, h]
theorem x_cutF {lo hi : Option Int} : dCut (.fl xs) lo hi A Q = newL A (cutL xs lo hi) Q := (rfl)
theorem x_revF : dRev (.fl xs) A Q = newL A xs.reverse Q := (rfl)
theorem x_addF : dBin .add (.fl xs) (.fl ys) A Q = (xs.length + ys.length ≤ sizeLine ∧ newL A (xs ++ ys) Q) := (rfl)
theorem x_mulF : dBin .mul (.fl xs) (.int i) A Q = ((-(2 ^ 63) ≤ i ∧ i < 2 ^ 63) ∧ xs.length * i.toNat ≤ sizeLine ∧ newL A (List.replicate i.toNat xs).flatten Q) := (rfl)
theorem x_truF : dTru (.fl xs) A QT = QT (!xs.isEmpty) A := (rfl)
theorem weak_ptp : weak (.ptp xs) = .tup xs := (rfl)
theorem weak_tup : weak (.tup xs) = .tup xs := (rfl)
theorem weak_non : weak .non = .non := (rfl)
theorem weak_int : weak (.int i) = .int i := (rfl)
theorem x_ptlF : (match lstD A (.fl xs) with | some xs => Q (.ptp xs) A | none => False) = Q (.ptp xs) A := (rfl)
theorem g_tpF {ts : List Tg} : gAsg (.tp ts) (.fl xs) δ A QG = gAsgs ts xs δ A QG := by unfold gAsg; rfl
theorem size_ok {n : Nat} (h : n ≤ 100000) : n ≤ sizeLine := Nat.le_trans h (by decide)
theorem size_lt {n : Nat} (h : n < 100000) : n < sizeLine := Nat.lt_of_lt_of_le h (by decide)
/-- comprehensions over a list of things of one kind -/
theorem comp_of {α : Type} {tg : Tg} {g : AH → Prop} {e : WE} {δ : DSt} (m : α → D) (f : α → D) {xs : List α} (hg : g A) (he : ∀ a ∈ xs, ∀ R : QE, R (f a) A → gAsg tg (m a) δ A fun δ' => e δ' A R fun _ _ => False) (h : newL A (xs.map f) Q) : dComp tg g (wpT c G .yes) e δ (xs.map m) [] A Q := by
  suffices ∀ (l : List α) (acc : List D), (∀ a ∈ l, a ∈ xs) → newL A (acc ++ l.map f) Q → dComp tg g (wpT c G .yes) e δ (l.map m) acc A Q from this xs [] (fun _ h => h) (by rw [List.nil_append]; exact h)
  intro l
  induction l with
  | nil => intro acc _ h; rw [List.map_nil, List.append_nil] at h; exact ⟨hg, h⟩
  | cons a l ih =>
    intro acc hl h
    refine ⟨hg, ?_⟩
    have h1 := he a (hl a List.mem_cons_self) (fun y A2 => dComp tg g (wpT c G .yes) e δ (l.map m) (acc ++ [y]) A2 Q) (ih _ (fun b hb => hl b (List.mem_cons_of_mem _ hb)) (by rw [List.append_assoc]; exact h))
    refine gAsg_mono _ _ _ _ _ _ (fun δ' q => ?_) h1
    rw [wq_yes, if_pos rfl]; exact q
theorem comp_if {α : Type} {tg : Tg} {g : AH → Prop} {t : WT} {e : WE} {δ : DSt} (m : α → D) (b : α → Bool) (f : α → D) {xs : List α} (hg : g A) (he : ∀ a ∈ xs, ∀ (R1 : QE) (R2 : AH → Prop), (b a = true → R1 (f a) A) → (b a = false → R2 A) → gAsg tg (m a) δ A fun δ' => t δ' A (fun b A1 => if b = true then e δ' A1 R1 (fun _ _ => False) else R2 A1) fun _ _ => False) (h : newL A ((xs.filter b).map f) Q) : dComp tg g t e δ (xs.map m) [] A Q := by
  suffices ∀ (l : List α) (acc : List D), (∀ a ∈ l, a ∈ xs) → newL A (acc ++ (l.filter b).map f) Q → dComp tg g t e δ (l.map m) acc A Q from this xs [] (fun _ h => h) (by rw [List.nil_append]; exact h)
  intro l
  induction l with
  | nil => intro acc _ h; rw [List.filter_nil, List.map_nil, List.append_nil] at h; exact ⟨hg, h⟩
  | cons a l ih =>
    intro acc hl h
    refine ⟨hg, ?_⟩
    refine he a (hl a List.mem_cons_self) (fun y A2 => dComp tg g t e δ (l.map m) (acc ++ [y]) A2 Q) (fun A1 => dComp tg g t e δ (l.map m) acc A1 Q) (fun hb => ?_) (fun hb => ?_)
    · rw [List.filter_cons_of_pos hb, List.map_cons] at h
      exact ih _ (fun b hb => hl b (List.mem_cons_of_mem _ hb)) (by rw [List.append_assoc]; exact h)
    · rw [List.filter_cons_of_neg (by rw [hb]; decide)] at h
      exact ih _ (fun b hb => hl b (List.mem_cons_of_mem _ hb)) h
/-! objects, by continuation -/
/-- the def behind a method's name -/
def dMeth (G : Gm) (m : Nat) (x : D) (A : AH) (K : Nat → Prop) : Prop := match x with
  | .ref a => match A a with
    | some (.ins C _) => match G.cl C with
      | some cd => match cd.ms.lookup m with | some f => K f | none => False
      | none => False
    | _ => False
  | _ => False
def dFld (C i : Nat) (x : D) (A : AH) (K : D → Prop) : Prop := match x with
  | .ref a => match A a with
    | some (.ins C' fs) => C' = C ∧ (match fs[i]? with | some d => K d | none => False)
    | _ => False
  | _ => False
def dPut (C k : Nat) (v x : D) (A : AH) (K : AH → Prop) : Prop := match x with
  | .ref a => match A a with
    | some (.ins C' fs) => C' = C ∧ k ≤ fs.length ∧ K (up A a (.ins C (putF' fs k v)))
    | _ => False
  | _ => False
def dMake (G : Gm) (c : CallT) (C : Nat) (ds : List D) (A : AH) (Q : QE) (E : XQ) : Prop := match G.cl C with
  | some cd => ∀ x, A x = none → c cd.init (.ref x :: ds) (up A x (.ins C [])) (fun r A2 => (match r with | .non => True | _ => False) ∧ Q (.ref x) A2) E
  | none => False
theorem wq_methK {m : Nat} : wpE c G (.meth m o es) δ A Q E = wpE c G o δ A (fun x A1 => dMeth G m x A1 fun f => wpEs c G es δ A1 (fun ds A2 => c f (x :: ds) A2 Q E) E) E := (rfl)
theorem wq_fldK {C i : Nat} : wpE c G (.fld C i o) δ A Q E = wpE c G o δ A (fun x A1 => dFld C i x A1 fun d => Q d A1) E := (rfl)
theorem wq_putK {C k : Nat} : wpS c G (.put C k o e) P δ A = wpE c G e δ A (fun v A1 => wpE c G o δ A1 (fun x A2 => dPut C k v x A2 fun A3 => P.nx δ A3) (fun x A' => P.ex x δ A')) (fun x A' => P.ex x δ A') := (rfl)
theorem wq_makeK {C : Nat} : wpE c G (.make C es) δ A Q E = wpEs c G es δ A (fun ds A1 => dMake G c C ds A1 Q E) E := (rfl)
def Mt (G : Gm) (C m f : Nat) : Prop := ∃ cd, G.cl C = some cd ∧ cd.ms.lookup m = some f
theorem x_meth {C m f : Nat} {a : Addr} {fs : List D} {K : Nat → Prop} (hm : Mt G C m f) (ha : A a = some (.ins C fs)) : dMeth G m (.ref a) A K = K f := by
  obtain ⟨cd, h1, h2⟩ := hm
  simp only [dMeth, ha, h1, h2]
theorem x_fld {C i : Nat} {a : Addr} {fs : List D} {K : D → Prop} (ha : A a = some (.ins C fs)) (hi : fs[i]? = some d) : dFld C i (.ref a) A K = K d := by
  simp only [dFld, ha, hi, true_and]
theorem x_put {C k : Nat} {a : Addr} {fs : List D} {K : AH → Prop} (ha : A a = some (.ins C fs)) (hk : k ≤ fs.length) : dPut C k x (.ref a) A K = K (up A a (.ins C (putF' fs k x))) := by
  simp only [dPut, ha, hk, true_and]
theorem x_make {C : Nat} {cd : ClD} {ds : List D} (h : G.cl C = some cd) : dMake G c C ds A Q E = ∀ x, A x = none → c cd.init (.ref x :: ds) (up A x (.ins C [])) (fun r A2 => (match r with | .non => True | _ => False) ∧ Q (.ref x) A2) E := by
  simp only [dMake, h]
end
end DL
local macro_rules | `(tactic| walk_at "wpx") => `(tactic| try simp only [DL.startD, List.map_cons, List.map_nil, List.length_cons, List.length_nil, Nat.zero_add, Nat.reduceAdd, Nat.reduceSub, List.replicate_succ, List.replicate_zero, List.cons_append, List.nil_append, List.set_cons_zero, List.set_cons_succ, DL.setAll, DL.wipeD,
  DL.wq_var0, DL.wq_var1, DL.wq_var2, DL.wq_var3, DL.wq_var4, DL.wq_var5, DL.wq_var6, DL.wq_var7, DL.wq_var8, DL.wq_var9, DL.wq_var10, DL.wq_var11, DL.wq_var12, DL.wq_var13, DL.wq_var14, DL.wq_var15, DL.wq_var16, DL.wq_var17, DL.wq_var18, DL.wq_var19, DL.wq_var20, DL.wq_var21, DL.wq_var22, DL.wq_var23, DL.wq_cst, DL.wq_tup, DL.wq_lst, DL.wq_bin, DL.wq_neg, DL.wq_cmp, DL.wq_chn, DL.wq_ch3, DL.wq_isn, DL.wq_isb, DL.wq_notv, DL.wq_andv, DL.wq_orv, DL.wq_ite, DL.wq_call, DL.wq_bi, DL.wq_isi, DL.wq_rgl, DL.wq_ix, DL.wq_cut, DL.wq_rev, DL.wq_comp, DL.wq_bm, DL.wq_nil, DL.wq_cons, DL.wq_on, DL.wq_os, DL.wq_val, DL.wq_and, DL.wq_or, DL.wq_not, DL.wq_yes, DL.wq_snil, DL.wq_sl, DL.wq_set, DL.wq_tset, DL.wq_par, DL.wq_sub, DL.wq_expr, DL.wq_il, DL.wq_for, DL.wq_whil, DL.wq_ret, DL.wq_pass, DL.wq_cont, DL.end_rt, DL.end_nx, DL.end_ex,
  DL.wq_sub2, DL.wq_fstr, DL.wq_compx, DL.wq_fz, DL.wq_wk, DL.wq_ptl, DL.wq_ptd, DL.wq_step, DL.wq_putK, DL.wq_methK, DL.wq_fldK, DL.wq_makeK, DL.wq_rais, DL.wq_tryx, DL.weak_ptp, DL.weak_tup, DL.weak_non, DL.weak_int,
  DL.x_addI, DL.x_addT, DL.x_addS, DL.x_sub, DL.x_mul, DL.x_fdiv, DL.x_mod, DL.x_lt, DL.x_le, DL.x_gt, DL.x_ge, DL.x_eqI, DL.x_neI, DP.x_eqB, DP.x_neB, DL.x_bTst, DL.x_truB, DL.x_truN, DL.x_truI, DL.x_truT, DL.x_truR, DL.x_truF, DL.x_lenT, DL.x_lenR, DL.x_lenF, DL.x_tupT, DL.x_tupF, DL.x_lstT, DL.x_lstF, DL.x_min2, DL.x_max2, DL.x_intB, DL.x_intI, DL.x_cutT, DL.x_cutF, DL.x_revT, DL.x_revF, DL.x_srcT, DL.x_srcR, DL.x_srcF, DL.x_enumF, DL.x_enumT, DL.x_rng1, DL.x_rng2, DL.x_rng3, DL.x_zip, DL.x_zipF, DL.x_ezip, DL.x_rgl1, DL.x_rgl2, DL.x_addF, DL.x_mulF, DL.x_sumF, DL.x_allF, DL.x_anyF, DL.x_ptlF, DL.g_nm, DL.g_tp, DL.g_tpF, DL.g_cons, DL.g_nil, DL.ty_app, DL.ty_ext, DL.ty_pop, DL.ty_popi, DL.fz_fl, if_true, if_false, Bool.false_eq_true, Bool.true_eq_false, Bool.not_true, Bool.not_false, DL.len2_ok, DL.len0_ok, true_and, DL.isNonD, decide_true, decide_false, reduceCtorEq])
/-- a spread is one -/
local macro_rules | `(tactic| walk_at "okf") => `(tactic| first | with_reducible assumption | with_reducible exact DP.jn_ok _ _ | with_reducible exact DP.mt_ok _ _ | with_reducible exact DP.tn_ok _ _ _ | with_reducible exact DP.wo_ok _ _ | with_reducible exact DP.form_ok _ | ((with_reducible refine DP.asks_okF ?h _); (case h => walk_at "okf")) | exact True.intro | (fail "okf"))
namespace DP
open DL PySem
open L2 hiding prD
theorem ext_ok {l m : PL} (hl : okF 0 l) (hm : okF 0 m) (h : ∀ k, 0 ≤ k → k < 100 → hasD l k = hasD m k) : l = m := okF_uniq hl hm fun k => by
  by_cases a : 0 ≤ k ∧ k < 100
  · exact h k a.1 a.2
  · have e1 : hasD l k = false := by
      cases e : hasD l k with
      | false => rfl
      | true => exact absurd (okF_rg hl e) a
    have e2 : hasD m k = false := by
      cases e : hasD m k with
      | false => rfl
      | true => exact absurd (okF_rg hm e) a
    rw [e1, e2]
/-- what is in all of a spread made by a test -/
theorem has_form {f : Int → Bool} {k : Int} (h0 : 0 ≤ k) (h1 : k < 100) : hasD (formOf f) k = f k := by rw [form_has, decide_eq_true h0, decide_eq_true h1]; rfl
theorem has_jn {l m : PL} {k : Int} (h0 : 0 ≤ k) (h1 : k < 100) : hasD (jn l m) k = (hasD l k || hasD m k) := has_form h0 h1
theorem has_mt {l m : PL} {k : Int} (h0 : 0 ≤ k) (h1 : k < 100) : hasD (mt l m) k = (hasD l k && hasD m k) := has_form h0 h1
theorem has_wo {l m : PL} {k : Int} (h0 : 0 ≤ k) (h1 : k < 100) : hasD (wo l m) k = (hasD l k && !hasD m k) := has_form h0 h1
theorem has_tn {l : PL} {a b k : Int} (h0 : 0 ≤ k) (h1 : k < 100) : hasD (tn l a b) k = (decide (a ≤ k) && decide (k < b) && !hasD l k) := has_form h0 h1
theorem has_one {a b k : Int} : hasD [(a, b)] k = (decide (a ≤ k) && decide (k < b)) := by rw [hasD_cons, hasD_nil, Bool.or_false]
theorem has_pr {p : Int × Int} {k : Int} : hasD [p] k = (decide (p.1 ≤ k) && decide (k < p.2)) := by rw [hasD_cons, hasD_nil, Bool.or_false]
theorem itr_spd6 {l : PL} : itr 6 (spd l) := itr_spd
/-- the draws' list, picked from a list that is a value -/
theorem pick_fl {G : Gm} (hD : Draws G) (hG : G.fn 103 = some ⟨3, 3, IR.law_pick⟩) (n : Nat) (ns : List Int) {t : Addr} {k : Nat} {xs : List D} {A : AH} {Q : QE} {E : XQ} (ht : A t = some (tw k)) (hk : k < 100000) (hne : xs ≠ []) (h : ∀ x ∈ xs, Q x (up A t (tw (k + 1)))) : callN G (n + 2) 103 [.rol (ns.map .int), .ref t, .fl xs] A Q E := by
  refine callN_mk hG rfl ?_
  unfold IR.law_pick
  walk_at "wpx"
  have hp : 0 < xs.length := List.length_pos_iff.mpr hne
  refine hD n ns ht hk (by omega) fun r h0 h1 => ?_
  obtain ⟨x, hx, ex⟩ := atI_in xs h0 h1
  rw [x_ixF ex]
  exact ret_here (h x hx)
end DP
namespace DP
theorem okl {l : PL} (hl : okF 0 l) : l.length < 100000 := by have := okF_len' hl; omega
theorem okp {l : PL} (hl : okF 0 l) : ∀ p ∈ l, okSt p := okF_st hl (Int.le_refl _)
end DP
/-- a length that is small -/
local macro_rules | `(tactic| walk_at "wsz") => `(tactic| (refine DL.size_ok ?_; (try simp only [List.length_map, List.length_append, List.length_reverse, List.length_cons, List.length_nil, DP.rgD_len]); omega))
/-- one call of a def of spreads -/
local macro_rules | `(tactic| walk_at "wgo1") => `(tactic| first
  | with_reducible refine DL.later_go ?_
  | with_reducible refine DL.newL_fz ?_
  | with_reducible refine DL.newD_fz ?_
  | ((with_reducible refine And.intro (DL.size_ok ?h1) ?hh); (case h1 => ((try simp only [List.length_map, List.length_append, List.length_reverse, List.length_cons, List.length_nil, DP.rgD_len]); omega)))
  | ((with_reducible refine DP.joined_ok ?h1 ?h2 _ ?h4 ?h5 ?hh); (case h1 => exact rfl); (case h2 => exact rfl); (case h4 => walk_at "okf"); (case h5 => walk_at "okf"))
  | ((with_reducible refine DP.met_ok ?h1 ?h2 _ ?h4 ?h5 ?hh); (case h1 => exact rfl); (case h2 => exact rfl); (case h4 => walk_at "okf"); (case h5 => walk_at "okf"))
  | ((with_reducible refine DP.without_ok ?h1 ?h2 _ ?h4 ?h5 ?hh); (case h1 => exact rfl); (case h2 => exact rfl); (case h4 => walk_at "okf"); (case h5 => walk_at "okf"))
  | ((with_reducible refine DP.is_within_ok ?h1 ?h2 ?h3 _ ?h5 ?h6 ?hh); (case h1 => exact rfl); (case h2 => exact rfl); (case h3 => exact rfl); (case h5 => walk_at "okf"); (case h6 => walk_at "okf"))
  | ((with_reducible refine DP.turned_out_ok ?h1 _ ?h3 ?h4 ?h5 ?hh); (case h1 => exact rfl); (case h3 => walk_at "okf"); (case h4 => omega); (case h5 => omega))
  | ((with_reducible refine DP.lacking_ok ?h1 ?h2 _ ?h4 ?h5 ?h6 ?hh); (case h1 => exact rfl); (case h2 => exact rfl); (case h4 => walk_at "okf"); (case h5 => omega); (case h6 => omega))
  | ((with_reducible refine DP.size_tup ?h1 _ _ ?h4 ?hh); (case h1 => exact rfl); (case h4 => exact DP.okl (by walk_at "okf")))
  | ((with_reducible refine DP.keys_of_tup ?h1 _ _ ?h4 ?h5 ?hh); (case h1 => exact rfl); (case h4 => exact DP.okp (by walk_at "okf")); (case h5 => exact DP.okl (by walk_at "okf")))
  | ((with_reducible refine DP.law_keys2F ?h1 _ _ ?h4 ?h5 ?hh); (case h1 => exact rfl); (case h4 => exact DP.okp (by walk_at "okf")); (case h5 => exact DP.okl (by walk_at "okf")))
  | ((with_reducible refine DP.law_keys1F ?h1 _ _ ?h4 ?h5 ?hh); (case h1 => exact rfl); (case h4 => exact DP.okp (by walk_at "okf")); (case h5 => exact DP.okl (by walk_at "okf")))
  | ((with_reducible refine DP.is_spread_spd ?h1 ?h2 ?h3 _ ?h5 ?hh); (case h1 => exact rfl); (case h2 => exact rfl); (case h3 => exact rfl); (case h5 => walk_at "okf"))
  | ((with_reducible refine DP.asks_ok ?h1 _ ?h3 ?hh); (case h1 => exact rfl); (case h3 => walk_at "okf"))
  | ((with_reducible refine DP.cost_of_ok ?h1 _ ?h3 ?hh); (case h1 => exact rfl); (case h3 => exact DP.okl (by walk_at "okf")))
  | ((with_reducible refine DP.waste_ok ?h1 ?h2 _ ?h4 ?hh); (case h1 => exact rfl); (case h2 => exact rfl); (case h4 => walk_at "okf"))
  | ((with_reducible refine DP.first_free_ok ?h1 ?h2 _ ?h4 ?h5 ?h6 ?hh); (case h1 => exact rfl); (case h2 => exact rfl); (case h4 => walk_at "okf"); (case h5 => omega); (case h6 => omega))
  | ((with_reducible refine DP.parts_ok ?h1 _ ?h3 ?h4 ?hh); (case h1 => exact rfl); (case h3 => walk_at "okf"); (case h4 => omega)))
local macro_rules | `(tactic| walk_at "wgo") => `(tactic| (walk_at "wpx"; repeat (walk_at "wgo1"; walk_at "wpx")))
set_option hygiene false in
local macro_rules | `(tactic| walk_at "sp_eq") => `(tactic| (refine DP.ext_ok (by walk_at "okf") (by walk_at "okf") fun k h0 h1 => ?_; simp only [DP.has_jn h0 h1, DP.has_mt h0 h1, DP.has_wo h0 h1, DP.has_tn h0 h1, DP.has_form h0 h1, DP.has_one, DP.has_pr, DP.hasD_nil]))

set_option Elab.async false
set_option linter.all false
set_option maxRecDepth 100000
/-! dicts by ints -/
namespace DP
open DL PySem
open L2 hiding prD
/-! dicts by ints -/
theorem sortd_of {x : D} {kvs : List (Key × D)} {ds : List Int} {A : AH} {Q : QE} (hx : dicD A x = some kvs) (h : kvs.map (·.1) = ds.map Sum.inl) (q : newL A ((sortI ds).map .int) Q) : dBi .sortd [x] A Q := by
  show (match dicD A x with | some kvs => (match alls int1 (kvs.map fun kv => ofKey kv.1) with | some ns => newL A ((sortI ns).map .int) Q | none => False) | none => False)
  rw [hx]
  have e : (kvs.map fun kv => ofKey kv.1) = ds.map .int := by
    have : (kvs.map fun kv => ofKey kv.1) = (kvs.map (·.1)).map ofKey := by rw [List.map_map]; rfl
    rw [this, h, List.map_map]; rfl
  simp only [e, alls_ints]
  exact q
theorem dicD_rod {kvs : List (Key × D)} {A : AH} : dicD A (.rod (kvs.map (·.1)) (kvs.map (·.2))) = some kvs := by
  show some ((kvs.map (·.1)).zip (kvs.map (·.2))) = _
  congr 1
  induction kvs with
  | nil => rfl
  | cons p r ih => simp only [List.map_cons, List.zip_cons_cons, ih]
theorem sortI_pw (l : List Int) : (sortI l).Pairwise (· ≤ ·) := by
  have := List.pairwise_mergeSort (le := fun a b : Int => decide (a ≤ b)) (fun a b c h1 h2 => by simp at *; omega) (fun a b => by simp; omega) l
  exact this.imp fun h => by simpa using h
end DP

set_option Elab.async false
set_option linter.all false
set_option maxRecDepth 100000
set_option maxHeartbeats 1000000
/-! texts of spreads -/
namespace DP
open DL PySem
open L2 hiding prD
def numT (i : Int) : Str := Str.ofString (toString i)
def sayP (p : Int × Int) : Str := (Str.empty ++ numT p.1 ++ "-") ++ numT p.2
def sayT (l : PL) : Str := Txt.join "," (l.map sayP)
section
variable {G : Gm} {n : Nat} {A : AH} {Q : QE} {E : XQ} {l : PL}
/-- a comprehension of things of one kind, where a turn may raise -/
def allsO {α β : Type} (f : α → Option β) : List α → Option (List β)
  | [] => some []
  | d :: ds => match f d, allsO f ds with | some x, some xs => some (x :: xs) | _, _ => none
end
end DP

set_option Elab.async false
set_option linter.all false
set_option maxRecDepth 100000
/-! ranges with a step; slices of truths; parts piece by piece -/
namespace DP
open DL PySem
open L2 hiding prD
end DP

set_option Elab.async false
set_option linter.all false
set_option maxRecDepth 100000
/-! asks that fill some gaps -/
namespace DP
open DL PySem
open L2 hiding prD
def mgB (b : Bool) (acc : PL) (p : Int × Int) : PL := match acc.getLast? with
  | some l => if b = true then acc.dropLast ++ [(l.1, p.2)] else acc ++ [p]
  | none => [p]
def flR (b : Nat → Bool) : Nat → Int × Int → PL → PL
  | _, c, [] => [c]
  | i, c, p :: r => if b i = true then flR b (i + 1) (c.1, p.2) r else c :: flR b (i + 1) p r
/-- the gaps told by b are asked for, too -/
def fillL (b : Nat → Bool) : PL → PL
  | [] => []
  | c :: r => flR b 0 c r
/-! the gaps -/
def gps : Int × Int → PL → List Int
  | _, [] => []
  | c, p :: r => (p.1 - c.2) :: gps p r
def gapsL : PL → List Int
  | [] => []
  | c :: r => gps c r
/-- the sum of what b tells -/
def sumB (b : Nat → Bool) : Nat → List Int → Int
  | _, [] => 0
  | i, g :: r => (if b i = true then g else 0) + sumB b (i + 1) r
def cntB (b : Nat → Bool) : Nat → List Int → Nat
  | _, [] => 0
  | i, g :: r => (if b i = true then 1 else 0) + cntB b (i + 1) r
def gapB (l : PL) (cost : Int) (j : Nat) : Bool := decide ((gapsL l).getD j 0 < cost)
/-! spreads they are -/
def gpB (b : Nat → Bool) : Nat → Int → PL → Int → Prop
  | _, _, [], _ => False
  | i, e, p :: r, k => (b i = true ∧ e ≤ k ∧ k < p.1) ∨ gpB b (i + 1) p.2 r k
end DP

set_option Elab.async false
set_option linter.all false
set_option maxRecDepth 100000
/-! asks_within -/
namespace DP
open DL PySem
open L2 hiding prD
/-- each gap, with its place -/
def gapsE (l : PL) : PL := (gapsL l).zipIdx.map fun x => (x.1, (x.2 : Int))
def keptO (l : PL) (many : Int) : List Int := ((sortP (gapsE l)).drop (if (l.length : Int) - many > 0 then (l.length : Int) - many else 0).toNat).map (·.2)
def awB (l : PL) (many : Int) (j : Nat) : Bool := !decide ((j : Int) ∈ keptO l many)
def awL (l : PL) (many : Int) : PL := fillL (awB l many) l
end DP

set_option Elab.async false
set_option linter.all false
set_option maxRecDepth 100000
/-! plain laws of asks -/
namespace DP
open DL PySem
open L2 hiding prD
def sumG (f : Int → Bool) (G : PL) : Int := (G.map fun x => if f x.2 = true then x.1 else 0).sum
def cntG (f : Int → Bool) (G : PL) : Nat := (G.filter fun x => f x.2).length
def awD (l : PL) (many : Int) : Nat := (if (l.length : Int) - many > 0 then (l.length : Int) - many else 0).toNat
end DP

set_option Elab.async false
set_option linter.all false
set_option maxRecDepth 100000
set_option maxHeartbeats 1000000
/-! the same of the same, texts too; all that is asked of spreads -/
namespace DP
open DL PySem
open L2 hiding prD
mutual
def smS : Nat → D → Prop
  | _, .non => True
  | _, .bl _ => True
  | _, .int _ => True
  | _, .str z => PyData.strOk z = true
  | n + 1, .tup ds => ds.length ≤ 100000 ∧ smSs n ds
  | _, _ => False
def smSs : Nat → List D → Prop
  | _, [] => True
  | n, d :: ds => smS n d ∧ smSs n ds
end
end DP

set_option Elab.async false
set_option linter.all false
set_option maxRecDepth 100000
/-! rows by keys: dicts of ints as functions -/
namespace DP
open DL PySem
open L2 hiding prD
/-- rows: what a key's worth is -/
abbrev RF := Int → Option Int
def dkI (kv : PL) : List (Key × D) := kv.map fun p => ((Sum.inl p.1 : Key), D.int p.2)
def rodI (kv : PL) : D := .rod ((dkI kv).map (·.1)) ((dkI kv).map (·.2))
theorem dic_rodI {A : AH} {kv : PL} : dicD A (rodI kv) = some (dkI kv) := dicD_rod
theorem dic_ref {A : AH} {a : Addr} {kvs : List (Key × D)} (h : A a = some (.dk kvs)) : dicD A (.ref a) = some kvs := by simp only [dicD, h]
def updF (R : RF) (k : Int) (o : Option Int) : RF := fun j => if j = k then o else R j
def noF : RF := fun _ => none
/-- pairs that tell rows -/
structure Rep (kv : PL) (R : RF) : Prop where
  nd : (kv.map (·.1)).Nodup
  val : ∀ k v, (k, v) ∈ kv ↔ R k = some v
  rg : ∀ p ∈ kv, 0 ≤ p.1 ∧ p.1 < 100
theorem Rep.nil : Rep [] noF := ⟨List.nodup_nil, fun k v => by simp [noF], fun p hp => by cases hp⟩
theorem Rep.rgR {kv : PL} {R : RF} (h : Rep kv R) {k : Int} {v : Int} (e : R k = some v) : 0 ≤ k ∧ k < 100 := h.rg _ ((h.val k v).mpr e)
theorem find_dk (kv : PL) (k : Int) : valD (dkI kv) (.inl k) = (kv.find? fun p => decide (p.1 = k)).map fun p => .int p.2 := by
  unfold valD dkI
  rw [List.find?_map, Option.map_map]
  have : ((fun kv : Key × D => decide (kv.1 = Sum.inl k)) ∘ fun p : Int × Int => ((Sum.inl p.1 : Key), D.int p.2)) = fun p => decide (p.1 = k) := by
    funext p
    show decide ((Sum.inl p.1 : Key) = Sum.inl k) = decide (p.1 = k)
    rw [Bool.eq_iff_iff, decide_eq_true_eq, decide_eq_true_eq]
    exact ⟨fun h => by injection h, fun h => by rw [h]⟩
  rw [this]
  rfl
theorem Rep.find {kv : PL} {R : RF} (h : Rep kv R) (k : Int) : (kv.find? fun p => decide (p.1 = k)).map (·.2) = R k := by
  cases e : kv.find? fun p => decide (p.1 = k) with
  | some p =>
    have h1 := List.find?_some e
    have h2 := List.mem_of_find?_eq_some e
    rw [decide_eq_true_eq] at h1
    rw [Option.map_some, eq_comm, ← h.val k p.2, ← h1]
    exact h2
  | none =>
    rw [Option.map_none]
    cases e2 : R k with
    | none => rfl
    | some v =>
      have := List.find?_eq_none.mp e _ ((h.val k v).mpr e2)
      simp at this
theorem Rep.valD {kv : PL} {R : RF} (h : Rep kv R) (k : Int) : DL.valD (dkI kv) (.inl k) = (R k).map .int := by
  rw [find_dk, ← h.find k, Option.map_map]; rfl
def put (kv : PL) (k v : Int) : PL := if (kv.any fun p => decide (p.1 = k)) = true then kv.map (fun p => if p.1 = k then (p.1, v) else p) else kv ++ [(k, v)]
theorem any_dk (kv : PL) (k : Int) : ((dkI kv).any fun p => decide (p.1 = .inl k)) = kv.any fun p => decide (p.1 = k) := by
  unfold dkI
  rw [List.any_map]
  congr 1
  funext p
  show decide ((Sum.inl p.1 : Key) = Sum.inl k) = decide (p.1 = k)
  rw [Bool.eq_iff_iff, decide_eq_true_eq, decide_eq_true_eq]
  exact ⟨fun h => by injection h, fun h => by rw [h]⟩
theorem put_dk (kv : PL) (k v : Int) : putD (dkI kv) (.inl k) (.int v) = dkI (put kv k v) := by
  unfold putD put
  rw [any_dk]
  split
  · unfold dkI
    rw [List.map_map, List.map_map]
    refine List.map_congr_left fun p _ => ?_
    show (if (Sum.inl p.1 : Key) = Sum.inl k then (Sum.inl p.1, D.int v) else ((Sum.inl p.1 : Key), D.int p.2)) = (Sum.inl (if p.1 = k then (p.1, v) else p).1, D.int (if p.1 = k then (p.1, v) else p).2)
    by_cases e : p.1 = k
    · rw [if_pos (by rw [e]), if_pos e]
    · rw [if_neg (fun h => e (by injection h)), if_neg e]
  · unfold dkI; rw [List.map_append]; rfl
theorem Rep.put {kv : PL} {R : RF} (h : Rep kv R) {k : Int} (v : Int) (h0 : 0 ≤ k) (h1 : k < 100) : Rep (put kv k v) (updF R k (some v)) := by
  unfold DP.put
  split
  · next c =>
    have e1 : (kv.map fun p => if p.1 = k then (p.1, v) else p).map (·.1) = kv.map (·.1) := by
      rw [List.map_map]
      refine List.map_congr_left fun p _ => ?_
      show (if p.1 = k then (p.1, v) else p).1 = p.1
      split <;> rfl
    refine ⟨by rw [e1]; exact h.nd, fun j w => ?_, fun p hp => ?_⟩
    · rw [List.mem_map]
      unfold updF
      constructor
      · rintro ⟨p, hp, e⟩
        by_cases c2 : p.1 = k
        · rw [if_pos c2] at e; injection e with e1 e2; subst e2; rw [if_pos (by rw [← e1, c2])]
        · rw [if_neg c2] at e; subst e; rw [if_neg c2]; exact (h.val _ _).mp hp
      · intro e
        split at e
        · next c2 =>
          injection e with e; subst e c2
          obtain ⟨p, hp, hk⟩ := List.any_eq_true.mp c
          have hk := of_decide_eq_true hk
          exact ⟨p, hp, by rw [if_pos hk, hk]⟩
        · next c2 => exact ⟨(j, w), (h.val _ _).mpr e, by rw [if_neg c2]⟩
    · obtain ⟨q, hq, rfl⟩ := List.mem_map.mp hp
      have := h.rg q hq
      split <;> exact this
  · next c =>
    have no : ∀ p ∈ kv, p.1 ≠ k := fun p hp e => c (List.any_eq_true.mpr ⟨p, hp, decide_eq_true e⟩)
    refine ⟨?_, fun j w => ?_, fun p hp => ?_⟩
    · rw [List.map_append]
      refine List.nodup_append.mpr ⟨h.nd, by simp, fun a ha b hb => ?_⟩
      obtain ⟨p, hp, rfl⟩ := List.mem_map.mp ha
      rw [List.mem_singleton.mp hb]
      exact no p hp
    · rw [List.mem_append, List.mem_singleton]
      unfold updF
      constructor
      · rintro (hp | e)
        · rw [if_neg (no _ hp)]; exact (h.val _ _).mp hp
        · injection e with e1 e2; subst e1 e2; rw [if_pos rfl]
      · intro e
        split at e
        · next c2 => injection e with e; subst e c2; exact .inr rfl
        · exact .inl ((h.val _ _).mpr e)
    · rcases List.mem_append.mp hp with hp | hp
      · exact h.rg p hp
      · rw [List.mem_singleton.mp hp]; exact ⟨h0, h1⟩
def drop (kv : PL) (k : Int) : PL := kv.filter fun p => decide (p.1 ≠ k)
theorem drop_dk (kv : PL) (k : Int) : dropD (dkI kv) (.inl k) = dkI (drop kv k) := by
  unfold dropD drop dkI
  rw [List.filter_map]
  congr 1
  refine List.filter_congr fun p _ => ?_
  show decide ((Sum.inl p.1 : Key) ≠ Sum.inl k) = decide (p.1 ≠ k)
  rw [Bool.eq_iff_iff, decide_eq_true_eq, decide_eq_true_eq]
  exact ⟨fun h e => h (by rw [e]), fun h e => h (by injection e)⟩
theorem Rep.drop {kv : PL} {R : RF} (h : Rep kv R) (k : Int) : Rep (drop kv k) (updF R k none) := by
  unfold DP.drop
  refine ⟨?_, fun j w => ?_, fun p hp => h.rg p (List.mem_filter.mp hp).1⟩
  · exact List.Nodup.sublist (List.Sublist.map _ List.filter_sublist) h.nd
  · rw [List.mem_filter, decide_eq_true_eq]
    unfold updF
    constructor
    · rintro ⟨h1, h2⟩; rw [if_neg h2]; exact (h.val _ _).mp h1
    · intro e
      split at e
      · cases e
      · next c => exact ⟨(h.val _ _).mpr e, c⟩
theorem Rep.same {kv : PL} {R : RF} (h : Rep kv R) {k : Int} (e : R k = none) : Rep kv (updF R k none) := by
  have : updF R k none = R := by
    funext j; unfold updF; split
    · next c => rw [c, e]
    · rfl
  rw [this]; exact h
theorem Rep.len {kv : PL} {R : RF} (h : Rep kv R) : kv.length ≤ 100 := by
  have h1 : (kv.map (·.1)).length ≤ (rgI 0 100).length := by
    refine List.Nodup.length_le_of_subset h.nd fun x hx => ?_
    obtain ⟨p, hp, rfl⟩ := List.mem_map.mp hx
    exact mem_rgI.mpr (h.rg p hp)
  rw [List.length_map] at h1
  have : (rgI 0 100).length = 100 := by unfold rgI; rw [List.length_map, List.length_range]; rfl
  omega
/-- rows put one by one -/
def ofL (xs : PL) : RF := xs.foldl (fun R p => updF R p.1 (some p.2)) noF
theorem merge_rep : ∀ (xs kv : PL) (R : RF), Rep kv R → (∀ p ∈ xs, 0 ≤ p.1 ∧ p.1 < 100) → ∃ kv', mergeD (dkI kv) (dkI xs) = dkI kv' ∧ Rep kv' (xs.foldl (fun R p => updF R p.1 (some p.2)) R)
  | [], kv, R, h, _ => ⟨kv, rfl, h⟩
  | p :: xs, kv, R, h, hx => by
    have hp := hx p List.mem_cons_self
    obtain ⟨kv', h1, h2⟩ := merge_rep xs (put kv p.1 p.2) (updF R p.1 (some p.2)) (h.put p.2 hp.1 hp.2) fun q hq => hx q (List.mem_cons_of_mem _ hq)
    refine ⟨kv', ?_, h2⟩
    rw [← h1, ← put_dk]; rfl
/-! rows of a stretch, in order -/
def keysR (R : RF) : List Int := (rgI 0 100).filter fun k => (R k).isSome
def rowsF (R : RF) (a b : Int) : PL := (rgI 0 100).filterMap fun k => if (decide (a ≤ k) && decide (k < b)) = true then (R k).map fun v => (k, v) else none
theorem Rep.keys {kv : PL} {R : RF} (h : Rep kv R) : sortI (kv.map (·.1)) = keysR R := by
  refine pw_ext ?_ ((rgI_pw 0 100).filter _) fun x => ?_
  · have h1 := sortI_pw (kv.map (·.1))
    have h2 : (sortI (kv.map (·.1))).Nodup := (sortI_perm _).nodup_iff.mpr h.nd
    refine (List.pairwise_and_iff.mpr ⟨h1, h2⟩).imp fun h => ?_
    obtain ⟨a, b⟩ := h
    omega
  · unfold keysR
    rw [(sortI_perm _).mem_iff, List.mem_map, List.mem_filter, mem_rgI]
    constructor
    · rintro ⟨p, hp, rfl⟩
      have := h.rg p hp
      exact ⟨this, by rw [(h.val p.1 p.2).mp hp]; rfl⟩
    · rintro ⟨_, h2⟩
      obtain ⟨v, hv⟩ := Option.isSome_iff_exists.mp h2
      exact ⟨(x, v), (h.val _ _).mpr hv, rfl⟩
theorem keysR_len (R : RF) : (keysR R).length ≤ 100 := by
  have : (rgI 0 100).length = 100 := by unfold rgI; rw [List.length_map, List.length_range]; rfl
  have h := List.length_filter_le (fun k => (R k).isSome) (rgI 0 100)
  unfold keysR; omega
theorem rowsF_eq (R : RF) (a b : Int) : rowsF R a b = ((keysR R).filter fun k => decide (a ≤ k) && decide (k < b)).map fun k => (k, (R k).getD 0) := by
  unfold rowsF keysR
  rw [List.filter_filter]
  induction rgI 0 100 with
  | nil => rfl
  | cons k r ih =>
    rw [List.filterMap_cons, List.filter_cons, ih]
    by_cases c : (decide (a ≤ k) && decide (k < b)) = true
    · rw [if_pos c, c]
      cases e : R k with
      | none => simp
      | some v => simp [e]
    · rw [if_neg c]
      have c := Bool.eq_false_iff.mpr c
      rw [c]
      simp
theorem mem_rowsF {R : RF} {a b : Int} {p : Int × Int} : p ∈ rowsF R a b ↔ (0 ≤ p.1 ∧ p.1 < 100) ∧ a ≤ p.1 ∧ p.1 < b ∧ R p.1 = some p.2 := by
  unfold rowsF
  rw [List.mem_filterMap]
  constructor
  · rintro ⟨k, hk, e⟩
    have hk := mem_rgI.mp hk
    split at e
    · next c =>
      simp only [Bool.and_eq_true, decide_eq_true_eq] at c
      obtain ⟨v, hv, rfl⟩ := Option.map_eq_some_iff.mp e
      exact ⟨hk, c.1, c.2, hv⟩
    · cases e
  · rintro ⟨h1, h2, h3, h4⟩
    exact ⟨p.1, mem_rgI.mpr h1, by rw [if_pos (by simp [h2, h3]), h4]; rfl⟩
theorem rowsF_pw (R : RF) (a b : Int) : (rowsF R a b).Pairwise fun p q => p.1 < q.1 := by
  unfold rowsF
  rw [List.pairwise_filterMap]
  refine (rgI_pw 0 100).imp fun {x y} hxy => ?_
  intro p hp q hq
  split at hp
  · obtain ⟨v, _, rfl⟩ := Option.map_eq_some_iff.mp hp
    split at hq
    · obtain ⟨w, _, rfl⟩ := Option.map_eq_some_iff.mp hq
      exact hxy
    · cases hq
  · cases hp
theorem rowsF_len (R : RF) (a b : Int) : (rowsF R a b).length ≤ 100 := by
  rw [rowsF_eq, List.length_map]
  exact Nat.le_trans (List.length_filter_le _ _) (keysR_len R)
theorem fm_congr {α β : Type} {f g : α → Option β} : ∀ {l : List α}, (∀ x ∈ l, f x = g x) → l.filterMap f = l.filterMap g
  | [], _ => rfl
  | x :: l, h => by rw [List.filterMap_cons, List.filterMap_cons, h x List.mem_cons_self, fm_congr fun y hy => h y (List.mem_cons_of_mem _ hy)]
/-- rows of a stretch are alike just if all its keys have like rows -/
theorem rowsF_inj {R S : RF} {a b : Int} : rowsF R a b = rowsF S a b ↔ ∀ k, 0 ≤ k → k < 100 → a ≤ k → k < b → R k = S k := by
  constructor
  · intro h k h0 h1 h2 h3
    cases e : R k with
    | some v =>
      have : ((k, v) : Int × Int) ∈ rowsF S a b := by rw [← h]; exact mem_rowsF.mpr ⟨⟨h0, h1⟩, h2, h3, e⟩
      exact (mem_rowsF.mp this).2.2.2.symm
    | none =>
      cases e2 : S k with
      | none => rfl
      | some v =>
        have : ((k, v) : Int × Int) ∈ rowsF R a b := by rw [h]; exact mem_rowsF.mpr ⟨⟨h0, h1⟩, h2, h3, e2⟩
        have := (mem_rowsF.mp this).2.2.2
        rw [e] at this; cases this
  · intro h
    unfold rowsF
    refine fm_congr fun k hk => ?_
    have hk := mem_rgI.mp hk
    split
    · next c =>
      simp only [Bool.and_eq_true, decide_eq_true_eq] at c
      rw [h k hk.1 hk.2 c.1 c.2]
    · rfl
end DP

set_option Elab.async false
set_option linter.all false
set_option maxRecDepth 100000
/-! sources -/
namespace DP
open DL PySem
open L2 hiding prD
/-- a source's cells: its own, that of what stood, that of the changed keys -/
structure SA where
  s : Addr
  st : Addr
  ch : Addr
/-- what a source knows -/
structure SV where
  Rs : List RF
  cs : List Int
  na : Int
  nk : Int
def SV.now (v : SV) : RF := v.Rs.getLastD noF
def SV.at (v : SV) (c : Int) : RF := v.Rs.getD c.toNat noF
def RepL (kvs : List PL) (Rs : List RF) : Prop := kvs.length = Rs.length ∧ ∀ (i : Nat) (kv : PL) (R : RF), kvs[i]? = some kv → Rs[i]? = some R → Rep kv R
def srcO (a : SA) (v : SV) : AO := .ins 1 [.ref a.st, .ref a.ch, .int v.na, .int v.nk]
structure Src (A : AH) (a : SA) (v : SV) : Prop where
  o : A a.s = some (srcO a v)
  st : ∃ kvs : List PL, A a.st = some (.lst (kvs.map rodI)) ∧ RepL kvs v.Rs
  ch : A a.ch = some (.lst (v.cs.map .int))
  len : v.Rs.length = v.cs.length + 1
  n1 : a.s ≠ a.st
  n2 : a.s ≠ a.ch
  n3 : a.st ≠ a.ch
  z : v.cs.length < 10000
def SV.put (v : SV) (k : Int) (w : Option Int) : SV := { v with Rs := v.Rs ++ [updF v.now k w], cs := v.cs ++ [k] }
def SV.ask (v : SV) (a b : Int) : SV := { v with na := v.na + 1, nk := v.nk + b - a }
def SV.new (R : RF) : SV := ⟨[R], [], 0, 0⟩
/-- nothing but these cells is touched -/
def Fr (L : List Addr) (A B : AH) : Prop := ∀ x, x ∉ L → B x = A x
theorem Fr.refl {L : List Addr} {A : AH} : Fr L A A := fun _ _ => rfl
theorem Fr.up {L : List Addr} {A B : AH} {x : Addr} {o : AO} (h : Fr L A B) (hx : x ∈ L) : Fr L A (up B x o) := fun y hy => by
  have : y ≠ x := fun e => hy (e ▸ hx)
  rw [up_ne this]; exact h y hy
theorem Fr.trans {L : List Addr} {A B C : AH} (h : Fr L A B) (k : Fr L B C) : Fr L A C := fun x hx => (k x hx).trans (h x hx)
theorem Fr.mono {L M : List Addr} {A B : AH} (h : Fr L A B) (k : ∀ x ∈ L, x ∈ M) : Fr M A B := fun x hx => h x fun h2 => hx (k x h2)
theorem Fr.at {L : List Addr} {A B : AH} {x : Addr} {o : AO} (h : Fr L A B) (hx : x ∉ L) (e : A x = some o) : B x = some o := by rw [h x hx]; exact e
theorem Fr.no {L : List Addr} {A B : AH} {x : Addr} (h : Fr L A B) (hx : x ∉ L) (e : A x = none) : B x = none := by rw [h x hx]; exact e
theorem Src.fr {A B : AH} {a : SA} {v : SV} {L : List Addr} (h : Src A a v) (f : Fr L A B) (h1 : a.s ∉ L) (h2 : a.st ∉ L) (h3 : a.ch ∉ L) : Src B a v := by
  obtain ⟨o, ⟨kvs, st, r⟩, ch, len, n1, n2, n3, z⟩ := h
  exact ⟨f.at h1 o, ⟨kvs, f.at h2 st, r⟩, f.at h3 ch, len, n1, n2, n3, z⟩
theorem RepL.at {kvs : List PL} {Rs : List RF} (h : RepL kvs Rs) {i : Nat} (hi : i < Rs.length) : ∃ kv, kvs[i]? = some kv ∧ Rep kv (Rs.getD i noF) := by
  have h1 : i < kvs.length := by rw [h.1]; exact hi
  refine ⟨kvs[i], List.getElem?_eq_getElem h1, h.2 i _ _ (List.getElem?_eq_getElem h1) ?_⟩
  rw [List.getD_eq_getElem?_getD, List.getElem?_eq_getElem hi]; rfl
theorem RepL.snoc {kvs : List PL} {Rs : List RF} (h : RepL kvs Rs) {kv : PL} {R : RF} (r : Rep kv R) : RepL (kvs ++ [kv]) (Rs ++ [R]) := by
  refine ⟨by rw [List.length_append, List.length_append, h.1]; rfl, fun i kv' R' h1 h2 => ?_⟩
  by_cases c : i < Rs.length
  · rw [List.getElem?_append_left (by rw [h.1]; exact c)] at h1
    rw [List.getElem?_append_left c] at h2
    exact h.2 i _ _ h1 h2
  · rw [List.getElem?_append_right (by rw [h.1]; omega), h.1] at h1
    rw [List.getElem?_append_right (by omega)] at h2
    have : i - Rs.length = 0 := by
      have := (List.getElem?_eq_some_iff.mp h2).1
      simp at this; omega
    rw [this] at h1 h2
    injection h1 with h1; injection h2 with h2
    subst h1 h2; exact r
theorem now_at {v : SV} (h : v.Rs.length = v.cs.length + 1) : v.now = v.at v.cs.length := by
  unfold SV.now SV.at
  rw [List.getLastD_eq_getLast?, List.getLast?_eq_getElem?, h, List.getD_eq_getElem?_getD, Int.toNat_natCast]
  rfl
theorem getE_kv {kvs : List PL} {i : Nat} {kv : PL} (h : kvs[i]? = some kv) : L2.atI (kvs.map rodI) (i : Int) = some (rodI kv) := atI_nat (by rw [List.getElem?_map, h]; rfl)
theorem Src.atc {A : AH} {a : SA} {v : SV} (h : Src A a v) {c : Int} (h0 : 0 ≤ c) (h1 : c ≤ v.cs.length) : ∃ (kvs : List PL) (kv : PL), A a.st = some (.lst (kvs.map rodI)) ∧ L2.atI (kvs.map rodI) c = some (rodI kv) ∧ Rep kv (v.at c) := by
  obtain ⟨kvs, e, r⟩ := h.st
  obtain ⟨kv, e2, r2⟩ := r.at (i := c.toNat) (by have := h.len; omega)
  refine ⟨kvs, kv, e, ?_, r2⟩
  have := getE_kv e2
  rw [show ((c.toNat : Nat) : Int) = c by omega] at this
  exact this
theorem alls_dk : ∀ l : PL, alls kv1 (prs l) = some (dkI l)
  | [] => rfl
  | p :: r => by
    have ih := alls_dk r
    unfold prs at ih
    unfold prs
    rw [List.map_cons]
    simp only [alls, ih]
    rfl
theorem dkI_keys (kv : PL) : (dkI kv).map (·.1) = (kv.map (·.1)).map Sum.inl := by unfold dkI; rw [List.map_map, List.map_map]; rfl
/-- rows sorted by keys, of a stretch -/
theorem rows_comp {c : CallT} {G : Gm} {δ : DSt} {A : AH} {Q : QE} {kv : PL} {R : RF} (h : Rep kv R) {a b : Int} {t : WT} {e : WE} {tg : Tg} {g : AH → Prop} (hg : g A)
    (he : ∀ k v, R k = some v → ∀ (R1 : QE) (R2 : AH → Prop), ((decide (a ≤ k) && decide (k < b)) = true → R1 (prD (k, v)) A) → ((decide (a ≤ k) && decide (k < b)) = false → R2 A) → gAsg tg (.int k) δ A fun δ' => t δ' A (fun b A1 => if b = true then e δ' A1 R1 (fun _ _ => False) else R2 A1) fun _ _ => False)
    (q : newL A (prs (rowsF R a b)) Q) : dComp tg g t e δ ((keysR R).map .int) [] A Q := by
  refine comp_if D.int (fun k => decide (a ≤ k) && decide (k < b)) (fun k => prD (k, (R k).getD 0)) hg (fun k hk R1 R2 r1 r2 => ?_) ?_
  · have h2 := (List.mem_filter.mp hk).2
    obtain ⟨v, hv⟩ := Option.isSome_iff_exists.mp h2
    have : (R k).getD 0 = v := by rw [hv]; rfl
    rw [this] at r1
    exact he k v hv R1 R2 r1 r2
  · rw [show ((keysR R).filter fun k => decide (a ≤ k) && decide (k < b)).map (fun k => prD (k, (R k).getD 0)) = prs (rowsF R a b) by rw [rowsF_eq, prs, List.map_map]; rfl]
    exact q
theorem sortd_rep {kv : PL} {R : RF} (h : Rep kv R) {x : D} {A : AH} {Q : QE} (hx : dicD A x = some (dkI kv)) (q : newL A ((keysR R).map .int) Q) : dBi .sortd [x] A Q := by
  refine sortd_of hx (dkI_keys kv) ?_
  rw [h.keys]; exact q
theorem dIx_rod {kv : PL} {R : RF} (h : Rep kv R) {k v : Int} (hv : R k = some v) {A : AH} {Q : QE} (q : Q (.int v) A) : dIx (rodI kv) (.int k) A Q := by
  have e := h.valD k
  rw [hv] at e
  show (match valD (((dkI kv).map (·.1)).zip ((dkI kv).map (·.2))) (.inl k) with | some d => Q d A | none => False)
  have e2 : ((dkI kv).map (·.1)).zip ((dkI kv).map (·.2)) = dkI kv := by
    have := dic_rodI (A := A) (kv := kv)
    injection this
  rw [e2, e]
  exact q
section
variable {G : Gm} {n : Nat} {A : AH} {a : SA} {v : SV} {Q : QE} {E : XQ}
theorem clock_ok (hG : G.fn 22 = some ⟨1, 1, IR.Source_clock⟩) (h : Src A a v) (q : Q (.int v.cs.length) A) : callN G (n + 1) 22 [.ref a.s] A Q E := by
  refine callN_mk hG rfl ?_
  unfold IR.Source_clock
  walk_at "wpx"
  rw [x_fld h.o rfl, x_lenL h.ch, List.length_map]
  exact ret_here q
theorem need_ok (hG2 : G.fn 22 = some ⟨1, 1, IR.Source_clock⟩) (m5 : Mt G 1 5 22) (hG : G.fn 23 = some ⟨2, 2, IR.Source_need⟩) (h : Src A a v) {c : Int} (h0 : 0 ≤ c) (h1 : c ≤ v.cs.length) (q : Q .non A) : callN G (n + 2) 23 [.ref a.s, .int c] A Q E := by
  refine callN_mk hG rfl ?_
  unfold IR.Source_need
  walk_at "wpx"
  rw [decide_eq_true h0]
  walk_at "wpx"
  rw [x_meth m5 h.o]
  refine clock_ok hG2 h ?_
  walk_at "wpx"
  rw [decide_eq_true h1]
  walk_at "wgo"
  exact ret_here q
/-- the requirements of a look -/
structure LkG (G : Gm) : Prop where
  g22 : G.fn 22 = some ⟨1, 1, IR.Source_clock⟩
  g23 : G.fn 23 = some ⟨2, 2, IR.Source_need⟩
  g25 : G.fn 25 = some ⟨4, 6, IR.Source_look_at⟩
  m5 : Mt G 1 5 22
  m13 : Mt G 1 13 23
  m12 : Mt G 1 12 25
theorem look_at_ok (g : LkG G) (h : Src A a v) {c x y : Int} (h0 : 0 ≤ c) (h1 : c ≤ v.cs.length) (q : Q (.ptp (prs (rowsF (v.at c) x y))) A) : callN G (n + 3) 25 [.ref a.s, .int c, .int x, .int y] A Q E := by
  refine callN_mk g.g25 rfl ?_
  unfold IR.Source_look_at
  walk_at "wpx"
  rw [x_meth g.m13 h.o]
  refine need_ok g.g22 g.m5 g.g23 h h0 h1 ?_
  walk_at "wgo"
  obtain ⟨kvs, kv, e1, e2, r⟩ := h.atc h0 h1
  rw [x_fld h.o rfl, x_ixL e1 e2]
  walk_at "wgo"
  refine sortd_rep r dic_rodI ?_
  walk_at "wgo"
  have hkl := keysR_len (v.at c)
  refine ⟨DL.size_ok (by rw [List.length_map]; omega), ?_⟩
  refine rows_comp (R := v.at c) (a := x) (b := y) (c := callN G (n + 2)) (G := G) r True.intro (fun k w hk R1 R2 r1 r2 => ?_) ?_
  · walk_at "wpx"
    cases e : decide (x ≤ k) with
    | false =>
      rw [e, Bool.false_and] at r2
      walk_at "wpx"; exact r2 rfl
    | true =>
      rw [e, Bool.true_and] at r1 r2
      walk_at "wpx"
      cases e3 : decide (k < y) with
      | false => walk_at "wpx"; exact r2 e3
      | true =>
        walk_at "wpx"
        refine dIx_rod r hk ?_
        exact r1 e3
  walk_at "wgo"
  exact ret_here q
theorem look_ok (g : LkG G) (g24 : G.fn 24 = some ⟨3, 3, IR.Source_look⟩) (h : Src A a v) {x y : Int} (q : Q (.ptp (prs (rowsF v.now x y))) A) : callN G (n + 4) 24 [.ref a.s, .int x, .int y] A Q E := by
  refine callN_mk g24 rfl ?_
  unfold IR.Source_look
  walk_at "wpx"
  rw [x_meth g.m12 h.o]
  walk_at "wpx"
  rw [x_meth g.m5 h.o]
  refine clock_ok g.g22 h ?_
  walk_at "wpx"
  refine look_at_ok g h (by omega) (by omega) ?_
  rw [← now_at h.len]
  exact ret_here q
theorem ask_ok (g : LkG G) (g24 : G.fn 24 = some ⟨3, 3, IR.Source_look⟩) (m11 : Mt G 1 11 24) (g26 : G.fn 26 = some ⟨3, 3, IR.Source_ask⟩) (h : Src A a v) {x y : Int} (q : ∀ B, Src B a (v.ask x y) → Fr [a.s] A B → Q (.ptp (prs (rowsF v.now x y))) B) : callN G (n + 5) 26 [.ref a.s, .int x, .int y] A Q E := by
  have n1 := h.n1; have n2 := h.n2
  refine callN_mk g26 rfl ?_
  unfold IR.Source_ask
  walk_at "wpx"
  rw [x_fld h.o rfl]
  walk_at "wpx"
  rw [x_put h.o (by simp)]
  refine later_go ?_
  walk_at "wpx"
  rw [x_fld (show up A a.s _ a.s = some _ from up_same) rfl]
  walk_at "wpx"
  rw [x_put (show up A a.s _ a.s = some _ from up_same) (by simp [putF']), up_up]
  have hb : Src (up A a.s (.ins 1 (putF' (putF' [.ref a.st, .ref a.ch, .int v.na, .int v.nk] 2 (.int (v.na + 1))) 3 (.int (v.nk + y - x))))) a (v.ask x y) := by
    obtain ⟨o, ⟨kvs, st, r⟩, ch, len, n1, n2, n3, z⟩ := h
    exact ⟨up_same, ⟨kvs, by rw [up_ne n1.symm]; exact st, r⟩, by rw [up_ne n2.symm]; exact ch, len, n1, n2, n3, z⟩
  have hf : Fr [a.s] A (up A a.s (.ins 1 (putF' (putF' [.ref a.st, .ref a.ch, .int v.na, .int v.nk] 2 (.int (v.na + 1))) 3 (.int (v.nk + y - x))))) := Fr.refl.up List.mem_cons_self
  refine later_go ?_
  walk_at "wpx"
  rw [x_meth m11 hb.o]
  refine look_ok g g24 hb ?_
  exact ret_here (q _ hb hf)
theorem told_ok (g27 : G.fn 27 = some ⟨1, 1, IR.Source_told⟩) (h : Src A a v) (q : Q (.tup [.int v.na, .int v.nk]) A) : callN G (n + 1) 27 [.ref a.s] A Q E := by
  refine callN_mk g27 rfl ?_
  unfold IR.Source_told
  walk_at "wpx"
  rw [x_fld h.o rfl]
  walk_at "wpx"
  rw [x_fld h.o rfl]
  walk_at "wpx"
  exact ret_here q
theorem x_dict {x : D} {kvs : List (Key × D)} (hx : dicD A x = some kvs) : dBi .dict [x] A Q = newD A kvs Q := by
  show (match dicD A x with | some kvs => newD A kvs Q | none => False) = _
  rw [hx]
theorem x_subD {p : Addr} {kv : PL} {k w : Int} {K : AH → Prop} (hp : A p = some (.dk (dkI kv))) (hz : kv.length ≤ 1000) (q : K (up A p (.dk (dkI (put kv k w))))) : dSub (.ref p) (.int k) (.int w) A K := by
  simp only [dSub, hp]
  rw [put_dk]
  exact ⟨by unfold dkI; rw [List.length_map]; exact size_lt (by omega), q⟩
theorem put_last {kvs : List PL} {Rs : List RF} (h : RepL kvs Rs) (hz : 0 < Rs.length) : ∃ kv, L2.atI (kvs.map rodI) (-1) = some (rodI kv) ∧ Rep kv (Rs.getLastD noF) := by
  obtain ⟨i, z, e⟩ := (nil_or_snoc kvs).resolve_left (by rintro rfl; have := h.1; simp at this; omega)
  subst e
  have hl := h.1
  rw [List.length_append, List.length_singleton] at hl
  refine ⟨z, by rw [List.map_append]; exact atI_last _ _, ?_⟩
  refine h.2 i.length z _ (by simp) ?_
  rw [List.getLastD_eq_getLast?, List.getLast?_eq_getElem?]
  have : Rs.length - 1 = i.length := by omega
  rw [this, List.getElem?_eq_getElem (by omega)]; rfl
theorem put_ok (g28 : G.fn 28 = some ⟨3, 4, IR.Source_put⟩) (h : Src A a v) {k w : Int} (h0 : 0 ≤ k) (h1 : k < 100) (hz : v.cs.length < 9999) (q : ∀ B, Src B a (v.put k (some w)) → Fr [a.st, a.ch] A B → Q .non B) : callN G (n + 1) 28 [.ref a.s, .int k, .int w] A Q E := by
  obtain ⟨o, ⟨kvs, st, r⟩, ch, len, n1, n2, n3, z⟩ := h
  obtain ⟨kv, e1, r1⟩ := put_last r (by omega)
  refine callN_mk g28 rfl ?_
  unfold IR.Source_put
  walk_at "wpx"
  rw [x_fld o rfl]
  walk_at "wpx"
  rw [x_ixL st e1, x_dict dic_rodI]
  intro p np
  have ns : a.s ≠ p := ne_free o np
  have nst : a.st ≠ p := ne_free st np
  have nch : a.ch ≠ p := ne_free ch np
  walk_at "wgo"
  refine x_subD up_same (by have := r1.len; omega) ?_
  rw [up_up]
  walk_at "wgo"
  rw [x_fld (show up A p _ a.s = some _ by rw [up_ne ns]; exact o) rfl, x_isL (show up A p _ a.st = some _ by rw [up_ne nst]; exact st)]
  walk_at "wpx"
  rw [fz_newD np, x_app st]
  have hl := r.1
  refine ⟨size_lt (by rw [List.length_map]; omega), ?_⟩
  refine later_go ?_
  walk_at "wpx"
  rw [x_fld (show up A a.st _ a.s = some _ by rw [up_ne n1]; exact o) rfl, x_isL (show up A a.st _ a.ch = some _ by rw [up_ne n3.symm]; exact ch)]
  walk_at "wpx"
  rw [x_app (show up A a.st _ a.ch = some _ by rw [up_ne n3.symm]; exact ch)]
  refine ⟨size_lt (by rw [List.length_map]; omega), ?_⟩
  walk_at "wpx"
  refine ret_here (q _ ⟨by rw [up_ne n2, up_ne n1]; exact o, ⟨kvs ++ [put kv k w], ?_, r.snoc (r1.put w h0 h1)⟩, ?_, ?_, n1, n2, n3, ?_⟩ ((Fr.refl.up (by simp)).up (by simp)))
  · rw [up_ne n3, up_same, List.map_append]; rfl
  · rw [up_same]
    show some (AO.lst (List.map D.int v.cs ++ [.int k])) = some (AO.lst ((v.cs ++ [k]).map .int))
    rw [List.map_append]; rfl
  · show (v.Rs ++ _).length = (v.cs ++ [k]).length + 1
    rw [List.length_append, List.length_append, len]; rfl
  · show (v.cs ++ [k]).length < 10000
    rw [List.length_append, List.length_singleton]; omega
theorem x_dpop2 {p : Addr} {kv : PL} {R : RF} (r : Rep kv R) {k : Int} {A : AH} {Q : QE} (hp : A p = some (.dk (dkI kv))) (q : ∀ x kv', Rep kv' (updF R k none) → Q x (up A p (.dk (dkI kv')))) : dBm .dpop (.ref p) [.int k, .non] A Q := by
  show (match A p, keyD (.int k) with | some (.dk kvs), some k => (match valD kvs k with | some v => Q v (up A p (.dk (dropD kvs k))) | none => Q .non A) | _, _ => False)
  simp only [hp, keyD, r.valD k]
  cases e : R k with
  | some w =>
    simp only [Option.map_some]
    rw [drop_dk]
    exact q _ _ (r.drop k)
  | none =>
    simp only [Option.map_none]
    have := q .non kv (r.same e)
    rw [up_id hp] at this
    exact this
theorem x_isD {p : Addr} {kvs : List (Key × D)} {A : AH} (h : A p = some (.dk kvs)) : isT .dict A (.ref p) = True := by simp only [isT, h]
theorem drop_ok (g29 : G.fn 29 = some ⟨2, 3, IR.Source_drop⟩) (h : Src A a v) {k : Int} (hz : v.cs.length < 9999) (q : ∀ B, Src B a (v.put k none) → Fr [a.st, a.ch] A B → Q .non B) : callN G (n + 1) 29 [.ref a.s, .int k] A Q E := by
  obtain ⟨o, ⟨kvs, st, r⟩, ch, len, n1, n2, n3, z⟩ := h
  obtain ⟨kv, e1, r1⟩ := put_last r (by omega)
  refine callN_mk g29 rfl ?_
  unfold IR.Source_drop
  walk_at "wpx"
  rw [x_fld o rfl]
  walk_at "wpx"
  rw [x_ixL st e1, x_dict dic_rodI]
  intro p np
  have ns : a.s ≠ p := ne_free o np
  have nst : a.st ≠ p := ne_free st np
  have nch : a.ch ≠ p := ne_free ch np
  refine later_go ?_
  walk_at "wpx"
  rw [show tyB .dpop = .dict from rfl, x_isD (show up A p _ p = some _ from up_same)]
  refine ⟨trivial, ?_⟩
  refine x_dpop2 r1 up_same fun x kv' r2 => ?_
  rw [up_up]
  refine later_go ?_
  walk_at "wpx"
  rw [x_fld (show up A p _ a.s = some _ by rw [up_ne ns]; exact o) rfl, x_isL (show up A p _ a.st = some _ by rw [up_ne nst]; exact st)]
  walk_at "wpx"
  rw [fz_newD np, x_app st]
  have hl := r.1
  refine ⟨size_lt (by rw [List.length_map]; omega), ?_⟩
  refine later_go ?_
  walk_at "wpx"
  rw [x_fld (show up A a.st _ a.s = some _ by rw [up_ne n1]; exact o) rfl, x_isL (show up A a.st _ a.ch = some _ by rw [up_ne n3.symm]; exact ch)]
  walk_at "wpx"
  rw [x_app (show up A a.st _ a.ch = some _ by rw [up_ne n3.symm]; exact ch)]
  refine ⟨size_lt (by rw [List.length_map]; omega), ?_⟩
  walk_at "wpx"
  refine ret_here (q _ ⟨by rw [up_ne n2, up_ne n1]; exact o, ⟨kvs ++ [kv'], ?_, r.snoc r2⟩, ?_, ?_, n1, n2, n3, ?_⟩ ((Fr.refl.up (by simp)).up (by simp)))
  · rw [up_ne n3, up_same, List.map_append]; rfl
  · rw [up_same]
    show some (AO.lst (List.map D.int v.cs ++ [.int k])) = some (AO.lst ((v.cs ++ [k]).map .int))
    rw [List.map_append]; rfl
  · show (v.Rs ++ _).length = (v.cs ++ [k]).length + 1
    rw [List.length_append, List.length_append, len]; rfl
  · show (v.cs ++ [k]).length < 10000
    rw [List.length_append, List.length_singleton]; omega
/-- the spread of some keys -/
def spB (ks : List Int) : PL := formOf fun k => decide (k ∈ ks)
theorem spB_ok (ks : List Int) : okF 0 (spB ks) := form_ok _
theorem spB_has {ks : List Int} (h : ∀ k ∈ ks, 0 ≤ k ∧ k < 100) (k : Int) : hasD (spB ks) k = decide (k ∈ ks) := form_has' (fun k hk => h k (of_decide_eq_true hk)) k
theorem spB_eq {ks : List Int} (h : ∀ k ∈ ks, 0 ≤ k ∧ k < 100) : spreadOf (ks.map fun k => (k, k + 1)) = spB ks := by
  refine spreadOf_eq (fun p hp => ?_) (spB_ok ks) fun k => ?_
  · obtain ⟨k, hk, rfl⟩ := List.mem_map.mp hp
    have := h k hk
    exact ⟨this.1, by dsimp only; omega, by dsimp only; omega⟩
  · rw [spB_has h, Bool.eq_iff_iff, hasD_mem, decide_eq_true_eq]
    constructor
    · rintro ⟨p, hp, h1, h2⟩
      obtain ⟨j, hj, rfl⟩ := List.mem_map.mp hp
      dsimp only at h1 h2
      rw [show k = j by omega]; exact hj
    · intro hk
      exact ⟨_, List.mem_map.mpr ⟨k, hk, rfl⟩, by dsimp only; omega, by dsimp only; omega⟩
theorem spread_by_seq (hG : G.fn 5 = some ⟨1, 2, IR.spread_by⟩) (hG4 : G.fn 4 = some ⟨1, 4, IR.spread_of⟩) {x : D} (ks : List Int) (hx : x = .fl (ks.map .int) ∨ x = .tup (ks.map .int)) (hk : ∀ k ∈ ks, 0 ≤ k ∧ k < 100) (hz : ks.length < 100000) (q : Q (spd (spB ks)) A) : callN G (n + 2) 5 [x] A Q E := by
  have hs : ∀ {Qs : List D → (AH → Prop) → Prop}, dSrc .seq [x] A Qs = Qs (ks.map .int) (fun _ => True) := by
    rcases hx with rfl | rfl <;> exact fun {Qs} => rfl
  refine callN_mk hG rfl ?_
  unfold IR.spread_by
  walk_at "wpx"
  rw [hs]
  refine ⟨DL.size_ok (by rw [List.length_map]; omega), ?_⟩
  refine comp_of D.int (fun k => prD (k, k + 1)) True.intro (fun x hx R hr => ?_) ?_
  · walk_at "wpx"
    exact hr
  intro p np
  rw [show ks.map (fun k => prD (k, k + 1)) = prs (ks.map fun k => (k, k + 1)) by rw [prs, List.map_map]; rfl]
  refine spread_of_lst hG4 n _ up_same (by rw [List.length_map]; exact hz) ?_
  rw [spB_eq hk]
  exact ret_at (DL.Sub.new np) q
/-- the keys changed since -/
structure ChG (G : Gm) : Prop where
  g4 : G.fn 4 = some ⟨1, 4, IR.spread_of⟩
  g5 : G.fn 5 = some ⟨1, 2, IR.spread_by⟩
  g22 : G.fn 22 = some ⟨1, 1, IR.Source_clock⟩
  g23 : G.fn 23 = some ⟨2, 2, IR.Source_need⟩
  g30 : G.fn 30 = some ⟨2, 2, IR.Source_changes_since⟩
  m5 : Mt G 1 5 22
  m13 : Mt G 1 13 23
theorem changes_ok (g : ChG G) (h : Src A a v) (hk : ∀ k ∈ v.cs, 0 ≤ k ∧ k < 100) {c : Int} (h0 : 0 ≤ c) (h1 : c ≤ v.cs.length) (q : Q (spd (spB (v.cs.drop c.toNat))) A) : callN G (n + 3) 30 [.ref a.s, .int c] A Q E := by
  refine callN_mk g.g30 rfl ?_
  unfold IR.Source_changes_since
  walk_at "wpx"
  rw [x_meth g.m13 h.o]
  refine need_ok g.g22 g.m5 g.g23 h h0 h1 ?_
  walk_at "wgo"
  rw [x_fld h.o rfl]
  walk_at "wpx"
  rw [x_cutL h.ch]
  refine newL_fz ?_
  have e : cutL (List.map D.int v.cs) (some c) none = (v.cs.drop c.toNat).map .int := by
    obtain ⟨m, rfl⟩ := Int.eq_ofNat_of_zero_le h0
    rw [cut_from _ (by rw [List.length_map]; omega), List.map_drop]; rfl
  rw [e]
  have hz := h.z
  refine spread_by_seq g.g5 g.g4 _ (.inl rfl) (fun k hk' => hk k (List.mem_of_mem_drop hk')) (by rw [List.length_drop]; omega) ?_
  exact ret_here q
theorem x_dictt {l : PL} {A : AH} {Q : QE} : dBi .dictt [.ptp (prs l)] A Q = newD A (mergeD [] (dkI l)) Q := by
  show (match alls kv1 (prs l) with | some kvs => newD A (mergeD [] kvs) Q | none => False) = _
  rw [alls_dk]
theorem src_init (g21 : G.fn 21 = some ⟨2, 2, IR.Source___init__⟩) {x : Addr} {l : PL} (hx : A x = none) (hl : ∀ p ∈ l, 0 ≤ p.1 ∧ p.1 < 100) (q : ∀ (b : SA) B, b.s = x → A b.st = none → A b.ch = none → Src B b (SV.new (ofL l)) → Fr [b.s, b.st, b.ch] A B → Q .non B) : callN G (n + 1) 21 [.ref x, .ptp (prs l)] (up A x (.ins 1 [])) Q E := by
  obtain ⟨kv, e1, r⟩ := merge_rep l [] noF Rep.nil hl
  refine callN_mk g21 rfl ?_
  unfold IR.Source___init__
  walk_at "wpx"
  rw [x_dictt]
  rw [show mergeD [] (dkI l) = dkI kv from e1]
  refine newD_fz ?_
  refine ⟨by decide, fun p np => ?_⟩
  have npx : x ≠ p := fun e => by subst e; rw [up_same] at np; cases np
  have npA : A p = none := by rw [up_ne (Ne.symm npx)] at np; exact np
  dsimp only
  rw [x_put (show up (up A x _) p _ x = some (.ins 1 []) by rw [up_ne npx, up_same]) (by simp)]
  refine later_go ?_
  walk_at "wpx"
  intro t nt
  have ntx : x ≠ t := fun e => by subst e; rw [up_same] at nt; cases nt
  have ntp : p ≠ t := fun e => by subst e; rw [up_ne (Ne.symm npx), up_same] at nt; cases nt
  have ntA : A t = none := by rw [up_ne (Ne.symm ntx), up_ne (Ne.symm ntp), up_ne (Ne.symm ntx)] at nt; exact nt
  rw [x_put (show up (up (up (up A x _) p _) x _) t _ x = some (.ins 1 _) by rw [up_ne ntx, up_same]) (by simp [putF'])]
  refine later_go ?_
  walk_at "wpx"
  rw [x_put (show up _ x _ x = some (.ins 1 _) from up_same) (by simp [putF']), up_up]
  refine later_go ?_
  walk_at "wpx"
  rw [x_put (show up _ x _ x = some (.ins 1 _) from up_same) (by simp [putF']), up_up]
  refine later_go ?_
  walk_at "wpx"
  refine ret_here (q ⟨x, p, t⟩ _ rfl npA ntA ⟨up_same, ⟨[kv], ?_, ?_⟩, ?_, rfl, npx, ntx, ntp, by show 0 < 10000; decide⟩ ?_)
  · rw [up_ne (Ne.symm npx), up_ne ntp, up_ne (Ne.symm npx), up_same]; rfl
  · refine ⟨rfl, fun i kv' R' h1 h2 => ?_⟩
    match i, h1, h2 with
    | 0, h1, h2 => injection h1 with h1; injection h2 with h2; subst h1 h2; exact r
    | i + 1, h1, h2 => simp at h1
  · rw [up_ne (Ne.symm ntx), up_same]; rfl
  · exact ((((((Fr.refl.up (by simp)).up (by simp)).up (by simp)).up (by simp)).up (by simp)))
end
end DP

set_option Elab.async false
set_option linter.all false
set_option maxRecDepth 100000
/-! what stood when -/
namespace DP
open DL PySem
open L2 hiding prD
/-- the rows of a stretch as they stood at a clock -/
def SV.rw (v : SV) (x y c : Int) : PL := rowsF (v.at c) x y
theorem spd_inj {l m : PL} : spd l = spd m ↔ l = m := ⟨fun h => prs_inj (by injection h), fun h => by rw [h]⟩
theorem ne_spd {l m : PL} {A : AH} {Q : QE} (q : Q (.bl (!decide (l = m))) A) : dCmp .ne (spd l) (spd m) A Q := by
  refine ne_any itr_spd6 itr_spd6 fun b hb => ?_
  have : b = !decide (l = m) := by
    have : b = false ↔ decide (l = m) = true := by rw [decide_eq_true_eq, hb, spd_inj]
    cases b <;> cases h : decide (l = m) <;> simp_all
  rw [this]; exact q
section
variable {G : Gm} {n : Nat} {A : AH} {a : SA} {v : SV} {Q : QE} {E : XQ} {x y : Int}
/-- from which clock on it stood so -/
def HF (v : SV) (x y : Int) (c r : Nat) : Prop := r ≤ c ∧ (∀ j : Nat, r ≤ j → j ≤ c → v.rw x y j = v.rw x y c) ∧ (0 < r → v.rw x y ((r : Int) - 1) ≠ v.rw x y c)
/-- up to which clock it stands so -/
def HT' (v : SV) (x y : Int) (c : Nat) : Option Int → Prop
  | some m => ∃ k : Nat, m = k ∧ c ≤ k ∧ k < v.cs.length ∧ (∀ j : Nat, c ≤ j → j ≤ k → v.rw x y j = v.rw x y c) ∧ v.rw x y ((k : Int) + 1) ≠ v.rw x y c
  | none => ∀ j : Nat, c ≤ j → j ≤ v.cs.length → v.rw x y j = v.rw x y c
theorem holds_to_ok (g : LkG G) (h53 : G.fn 53 = some ⟨4, 6, IR.holds_to⟩) (h : Src A a v) {c : Nat} (hc : c ≤ v.cs.length) (q : ∀ o, HT' v x y c o → Q (optD o) A) : callN G (n + 4) 53 [.ref a.s, .int c, .int x, .int y] A Q E := by
  have hz := h.z
  refine callN_mk h53 rfl ?_
  unfold IR.holds_to
  walk_at "wpx"
  rw [x_meth g.m12 h.o]
  walk_at "wpx"
  refine look_at_ok g h (by omega) (by omega) ?_
  walk_at "wgo"
  rw [x_meth g.m5 h.o]
  refine clock_ok g.g22 h ?_
  walk_at "wpx"
  refine ⟨by omega, ?_⟩
  refine for_inv (fun j δ B => ∃ d5, δ = [some (.ref a.s), some (.int c), some (.int x), some (.int y), some (spd (v.rw x y c)), d5] ∧ B = A ∧ ∀ i : Nat, c ≤ i → i ≤ c + j → v.rw x y i = v.rw x y c) _ 0 (fun i z δ B M hi hI hM => ?_) ⟨none, rfl, rfl, fun i h1 h2 => by rw [show i = c by omega]⟩ ?_
  · obtain ⟨d5, rfl, rfl, hj⟩ := hI
    rw [Nat.zero_add] at hj hM
    rw [rgD_eq] at hi
    obtain ⟨m, hm, rfl⟩ := List.getElem?_map ▸ hi |> Option.map_eq_some_iff.mp
    have hm1 := rgI_get hm
    have hm2 := mem_rgI.mp (List.mem_of_getElem? hm)
    refine ⟨True.intro, ?_⟩
    unfold IR.holds_to_b1
    walk_at "wpx"
    rw [x_meth g.m12 h.o]
    walk_at "wpx"
    refine look_at_ok g h (by omega) (by omega) ?_
    walk_at "wpx"
    refine ne_spd ?_
    have em : m = ((c + i + 1 : Nat) : Int) := by omega
    cases ec : decide (rowsF (v.at m) x y = v.rw x y c) with
    | true =>
      walk_at "wgo"
      refine hM _ _ ⟨_, rfl, rfl, fun k h1 h2 => ?_⟩
      by_cases c2 : k = c + i + 1
      · rw [c2, ← em]; exact of_decide_eq_true ec
      · exact hj k h1 (by omega)
    | false =>
      walk_at "wgo"
      refine ret_here ?_
      have := q (some (m - 1)) ⟨c + i, by omega, by omega, by omega, fun k h1 h2 => hj k h1 h2, ?_⟩
      · exact this
      · rw [show (((c + i : Nat) : Int) + 1) = m by omega]; exact of_decide_eq_false ec
  · rintro δ B ⟨d5, rfl, rfl, hj⟩
    rw [Nat.zero_add, rgD_len] at hj
    refine ⟨True.intro, ?_⟩
    walk_at "wgo"
    exact ret_here (q none fun j h1 h2 => hj j h1 (by omega))
/-- all clocks at which a stretch had just these rows -/
def clks (v : SV) (x y : Int) (l : PL) : List Int := (rgI 0 (v.cs.length + 1)).filter fun c => decide (v.rw x y c = l)
/-- answers: first, last, rows -/
abbrev An := Int × Int × PL
def anD (t : An) : D := .tup [.int t.1, .int t.2.1, spd t.2.2]
def clA (v : SV) (ts : List An) : List Int := (rgI 0 (v.cs.length + 1)).filter fun c => ts.all fun t => decide (v.rw t.1 t.2.1 c = t.2.2)
end
end DP

set_option Elab.async false
set_option linter.all false
set_option maxRecDepth 100000
/-! what the laws build: rows, changes -/
namespace DP
open DL PySem
open L2 hiding prD
theorem fold_upd : ∀ (xs : PL) (R0 : RF), (xs.map (·.1)).Nodup → (∀ k v, (k, v) ∈ xs → xs.foldl (fun R p => updF R p.1 (some p.2)) R0 k = some v) ∧ ∀ k, k ∉ xs.map (·.1) → xs.foldl (fun R p => updF R p.1 (some p.2)) R0 k = R0 k
  | [], R0, _ => ⟨(fun k v h => by cases h), (fun k _ => rfl)⟩
  | p :: xs, R0, nd => by
    rw [List.map_cons, List.nodup_cons] at nd
    obtain ⟨h1, h2⟩ := fold_upd xs (updF R0 p.1 (some p.2)) nd.2
    refine ⟨fun k v h => ?_, fun k h => ?_⟩
    · rw [List.foldl_cons]
      rcases List.mem_cons.mp h with e | h
      · have : k = p.1 := by rw [← e]
        rw [h2 k (by rw [this]; exact nd.1)]
        unfold updF
        rw [if_pos this, ← e]
      · exact h1 k v h
    · rw [List.map_cons, List.mem_cons, not_or] at h
      rw [List.foldl_cons, h2 k h.2]
      unfold updF
      rw [if_neg h.1]
theorem Rep.ofL {kv : PL} {R : RF} (h : Rep kv R) : DP.ofL kv = R := by
  obtain ⟨h1, h2⟩ := fold_upd kv noF h.nd
  funext k
  cases e : R k with
  | some v => exact h1 k v ((h.val k v).mpr e)
  | none =>
    refine h2 k fun hk => ?_
    obtain ⟨p, hp, rfl⟩ := List.mem_map.mp hk
    have := (h.val p.1 p.2).mp hp
    rw [e] at this; cases this
theorem x_keys {p : Addr} {kvs : List (Key × D)} {u : HO} {A : AH} {Qs : List D → (AH → Prop) → Prop} (h : A p = some (.dkl kvs u)) : dSrc .keys [.ref p] A Qs = Qs (kvs.map fun kv => ofKey kv.1) (fun A' => A' p = some (.dkl kvs u)) := by simp only [dSrc, h]
theorem dk_keys (kv : PL) : ((dkI kv).map fun p => ofKey p.1) = (kv.map (·.1)).map .int := by unfold dkI; rw [List.map_map, List.map_map]; rfl
/-- a dict's worth at a key -/
theorem x_ixD {x : D} {kv : PL} {R : RF} (r : Rep kv R) {k w : Int} (hk : R k = some w) {A : AH} {Q : QE} (hx : (∃ p, x = .ref p ∧ (A p = some (.dk (dkI kv)) ∨ ∃ u, A p = some (.dkl (dkI kv) u))) ∨ x = rodI kv) (q : Q (.int w) A) : dIx x (.int k) A Q := by
  rcases hx with ⟨p, rfl, hp⟩ | rfl
  · have e := r.valD k
    rw [hk] at e
    rcases hp with hp | ⟨u, hp⟩
    · simp only [dIx, seqD, dicD, hp, keyD, e, Option.map_some]; exact q
    · simp only [dIx, seqD, dicD, hp, keyD, e, Option.map_some]; exact q
  · exact dIx_rod r hk q
theorem x_kinR {kv : PL} {R : RF} (r : Rep kv R) {k : Int} {A : AH} {Q : QE} : dCmp .kin (.int k) (rodI kv) A Q = Q (.bl (R k).isSome) A := by
  show (match dicD A (rodI kv), keyD (.int k) with | some kvs, some k => Q (.bl (valD kvs k).isSome) A | _, _ => False) = _
  rw [dic_rodI]
  show Q (.bl (valD (dkI kv) (.inl k)).isSome) A = _
  rw [r.valD k, Option.isSome_map]
theorem pwp_ext : ∀ {l m : PL}, l.Pairwise (fun p q => p.1 < q.1) → m.Pairwise (fun p q => p.1 < q.1) → (∀ x, x ∈ l ↔ x ∈ m) → l = m
  | [], [], _, _, _ => rfl
  | [], b :: m, _, _, h => by have := (h b).mpr List.mem_cons_self; cases this
  | a :: l, [], _, _, h => by have := (h a).mp List.mem_cons_self; cases this
  | a :: l, b :: m, h1, h2, h => by
    rw [List.pairwise_cons] at h1 h2
    have e : a = b := by
      rcases List.mem_cons.mp ((h a).mp List.mem_cons_self) with e | e
      · exact e
      · rcases List.mem_cons.mp ((h b).mpr List.mem_cons_self) with e2 | e2
        · exact e2.symm
        · have := h2.1 a e; have := h1.1 b e2; omega
    subst e
    congr 1
    refine pwp_ext h1.2 h2.2 fun x => ⟨fun hx => ?_, fun hx => ?_⟩
    · rcases List.mem_cons.mp ((h x).mp (List.mem_cons_of_mem _ hx)) with e | e
      · have := h1.1 x hx; rw [e] at this; omega
      · exact e
    · rcases List.mem_cons.mp ((h x).mpr (List.mem_cons_of_mem _ hx)) with e | e
      · have := h2.1 x hx; rw [e] at this; omega
      · exact e
section
variable {G : Gm} {n : Nat} {A : AH} {Q : QE} {E : XQ}
/-- a change: a key, its new worth or none -/
abbrev Cg := Int × Option Int
def cgD (c : Cg) : D := .tup [.int c.1, optD c.2]
theorem cgD_eq (c : Cg) : cgD c = .tup [.int c.1, optD c.2] := rfl
theorem law_do_ok (h119 : G.fn 119 = some ⟨2, 2, IR.law_do_change⟩) (g28 : G.fn 28 = some ⟨3, 4, IR.Source_put⟩) (g29 : G.fn 29 = some ⟨2, 3, IR.Source_drop⟩) (m17 : Mt G 1 17 28) (m6 : Mt G 1 6 29) {a : SA} {v : SV} (h : Src A a v) {c : Cg} (h0 : 0 ≤ c.1) (h1 : c.1 < 100) (hz : v.cs.length < 9999) (q : ∀ B, Src B a (v.put c.1 c.2) → Fr [a.st, a.ch] A B → Q .non B) : callN G (n + 2) 119 [.ref a.s, cgD c] A Q E := by
  obtain ⟨k, o⟩ := c
  refine callN_mk h119 rfl ?_
  unfold IR.law_do_change
  rw [cgD_eq]
  walk_at "wpx"
  rw [x_ixT (atI1 _ _ _)]
  cases o with
  | none =>
    simp only [optD]
    walk_at "wgo"
    rw [x_meth m6 h.o]
    walk_at "wpx"
    rw [x_ixT (atI0 _ _)]
    refine drop_ok g29 h hz fun B hB hf => ?_
    exact ret_here (q B hB hf)
  | some w =>
    simp only [optD]
    walk_at "wgo"
    rw [x_meth m17 h.o]
    walk_at "wpx"
    rw [x_ixT (atI0 _ _), x_ixT (atI1 _ _ _)]
    refine put_ok g28 h h0 h1 hz fun B hB hf => ?_
    exact ret_here (q B hB hf)
theorem wq_dic0 {c : CallT} {δ : DSt} (h : newD A [] Q) : wpE c G (.dic []) δ A Q E := by
  rw [wq_dic, wq_nil]; exact ⟨by decide, h⟩
end
end DP

set_option Elab.async false
set_option linter.all false
set_option maxRecDepth 100000
/-! what is unlike since -/
namespace DP
open DL PySem
open L2 hiding prD
/-- the keys whose rows are not as they were -/
def unB (v : SV) (c : Int) : PL := formOf fun k => !decide (v.at c k = v.now k)
theorem Rep.key {kv : PL} {R : RF} (h : Rep kv R) (k : Int) : k ∈ kv.map (·.1) ↔ (R k).isSome = true := by
  rw [List.mem_map]
  constructor
  · rintro ⟨p, hp, rfl⟩
    rw [(h.val p.1 p.2).mp hp]; rfl
  · intro e
    obtain ⟨w, hw⟩ := Option.isSome_iff_exists.mp e
    exact ⟨(k, w), (h.val _ _).mpr hw, rfl⟩
structure UnG (G : Gm) : Prop where
  g4 : G.fn 4 = some ⟨1, 4, IR.spread_of⟩
  g5 : G.fn 5 = some ⟨1, 2, IR.spread_by⟩
  g22 : G.fn 22 = some ⟨1, 1, IR.Source_clock⟩
  g23 : G.fn 23 = some ⟨2, 2, IR.Source_need⟩
  g31 : G.fn 31 = some ⟨2, 6, IR.Source_unlike_since⟩
  m5 : Mt G 1 5 22
  m13 : Mt G 1 13 23
section
variable {G : Gm} {n : Nat} {A : AH} {a : SA} {v : SV} {Q : QE} {E : XQ}
end
end DP

set_option Elab.async false
set_option linter.all false
set_option maxRecDepth 100000
/-! cells that are apart; changes by cells -/
namespace DP
open DL PySem
open L2 hiding prD
theorem nd_ne {L : List Addr} (h : L.Nodup) (i j : Nat) {x y : Addr} (hij : i ≠ j) (hi : L[i]? = some x) (hj : L[j]? = some y) : x ≠ y := by
  intro e
  subst e
  obtain ⟨h1, e1⟩ := List.getElem?_eq_some_iff.mp hi
  obtain ⟨h2, e2⟩ := List.getElem?_eq_some_iff.mp hj
  exact hij ((List.getElem_inj h).mp (e1.trans e2.symm))
theorem nd_nin {L : List Addr} (h : L.Nodup) (i : Nat) (js : List Nat) {x : Addr} {M : List Addr} (hi : L[i]? = some x) (hj : js.map (fun j => L[j]?) = M.map some) (hij : i ∉ js) : x ∉ M := by
  intro hx
  have : some x ∈ M.map some := List.mem_map.mpr ⟨x, hx, rfl⟩
  rw [← hj] at this
  obtain ⟨j, hj1, hj2⟩ := List.mem_map.mp this
  exact nd_ne h i j (fun e => hij (e ▸ hj1)) hi hj2 rfl
theorem Src.frN {A B : AH} {a : SA} {v : SV} {L M : List Addr} (hn : L.Nodup) (h : Src A a v) (f : Fr M A B) (i : Nat) (js : List Nat) (e0 : L[i]? = some a.s) (e1 : L[i + 1]? = some a.st) (e2 : L[i + 2]? = some a.ch) (hj : js.map (fun j => L[j]?) = M.map some) (d0 : i ∉ js) (d1 : i + 1 ∉ js) (d2 : i + 2 ∉ js) : Src B a v :=
  h.fr f (nd_nin hn i js e0 hj d0) (nd_nin hn (i + 1) js e1 hj d1) (nd_nin hn (i + 2) js e2 hj d2)
theorem RepL.zip {kvs : List PL} {Rs : List RF} (h : RepL kvs Rs) : ∃ ps : List (PL × RF), kvs = ps.map (·.1) ∧ Rs = ps.map (·.2) ∧ ∀ p ∈ ps, Rep p.1 p.2 := by
  refine ⟨kvs.zip Rs, ?_, ?_, fun p hp => ?_⟩
  · rw [List.map_fst_zip (by rw [h.1]; exact Nat.le_refl _)]
  · rw [List.map_snd_zip (by rw [h.1]; exact Nat.le_refl _)]
  · obtain ⟨i, hi⟩ := List.mem_iff_getElem?.mp hp
    rw [List.getElem?_zip_eq_some] at hi
    exact h.2 i _ _ hi.1 hi.2
abbrev nc : D := .str "NoClock"
end DP

set_option Elab.async false
set_option linter.all false
set_option maxRecDepth 100000
/-! rows in a live dict, beside a source -/
namespace DP
open DL PySem
open L2 hiding prD
theorem sortP_pw (l : List (Int × Int)) : (DL.sortP l).Pairwise fun p q => leP p q = true :=
  List.pairwise_mergeSort (le := leP) (fun a b c h1 h2 => by unfold leP at *; simp only [decide_eq_true_eq] at *; omega) (fun a b => by unfold leP; simp only [Bool.or_eq_true, decide_eq_true_eq]; omega) l
theorem Rep.sortP {kv : PL} {R : RF} (h : Rep kv R) : DL.sortP kv = rowsF R 0 100 := by
  have hp : (DL.sortP kv).Perm kv := List.mergeSort_perm _ _
  refine pwp_ext ?_ (rowsF_pw R 0 100) fun p => ?_
  · have h2 : ((DL.sortP kv).map (·.1)).Nodup := (hp.map _).nodup_iff.mpr h.nd
    have h3 : (DL.sortP kv).Pairwise fun p q => p.1 ≠ q.1 := by
      have := List.pairwise_map.mp h2
      exact this
    refine (List.pairwise_and_iff.mpr ⟨sortP_pw kv, h3⟩).imp fun h => ?_
    obtain ⟨a, b⟩ := h
    unfold leP at a
    simp only [decide_eq_true_eq] at a
    omega
  · rw [hp.mem_iff, mem_rowsF]
    constructor
    · intro hm
      have := h.rg p hm
      exact ⟨this, this.1, this.2, (h.val p.1 p.2).mp hm⟩
    · rintro ⟨_, _, _, h4⟩
      exact (h.val p.1 p.2).mpr h4
theorem Rep.rows {kv : PL} {R : RF} (h : Rep kv R) : Rep (rowsF R 0 100) R := by
  refine ⟨?_, fun k v => ?_, fun p hp => (mem_rowsF.mp hp).1⟩
  · have := rowsF_pw R 0 100
    rw [List.Nodup, List.pairwise_map]
    exact this.imp fun h => by omega
  · rw [mem_rowsF]
    constructor
    · rintro ⟨_, _, _, h4⟩; exact h4
    · intro e
      have := h.rgR e
      exact ⟨this, this.1, this.2, e⟩
theorem Rep.ofRows {kv : PL} {R : RF} (h : Rep kv R) : DP.ofL (rowsF R 0 100) = R := h.rows.ofL
theorem alls_pr_dk : ∀ kv : PL, alls pr1 ((dkI kv).map fun p : Key × D => D.tup [ofKey p.1, p.2]) = some kv
  | [] => rfl
  | p :: r => by
    have := alls_pr_dk r
    unfold dkI at this ⊢
    rw [List.map_cons, List.map_cons]
    simp only [alls, this]
    rfl
theorem x_sitems {p : Addr} {kv : PL} {R : RF} {A : AH} {Q : QE} (r : Rep kv R) (h : A p = some (.dk (dkI kv))) : dBi .sitems [.ref p] A Q = newL A (prs (rowsF R 0 100)) Q := by
  show (match A p with
    | some (.dk kvs) => (match alls pr1 (kvs.map fun kv : Key × D => D.tup [ofKey kv.1, kv.2]) with | some ps => newL A ((DL.sortP ps).map DL.prD) Q | none => False)
    | _ => False) = _
  simp only [h]
  rw [alls_pr_dk]
  simp only []
  rw [r.sortP]
theorem x_sortdA {p : Addr} {kv : PL} {R : RF} {A : AH} {Q : QE} (r : Rep kv R) (h : A p = some (.dk (dkI kv))) (q : newL A ((keysR R).map .int) Q) : dBi .sortd [.ref p] A Q := sortd_rep r (dic_ref h) q
section
variable {G : Gm} {n : Nat} {A : AH} {Q : QE} {E : XQ}
/-- rows by cells, in a dict -/
theorem law_rows22 (hD : Draws G) (hG : G.fn 115 = some ⟨2, 4, IR.law_rows_k22⟩) (ns : List Int) {t : Addr} {k : Nat} (ht : A t = some (tw k)) (hk : k < 90000) (q : ∀ p kv R k', A p = none → t ≠ p → Rep kv R → kv.length ≤ 25 → k ≤ k' → k' ≤ k + 60 → Q (.ref p) (up (up A p (.dk (dkI kv))) t (tw k'))) : callN G (n + 2) 115 [.rol (ns.map .int), .ref t] A Q E := by
  refine callN_mk hG rfl ?_
  unfold IR.law_rows_k22
  walk_at "wpx"
  refine wq_dic0 fun p np => ?_
  have hne : t ≠ p := ne_free ht np
  refine later_go ?_
  walk_at "wpx"
  refine hD _ ns (kp_new ht np) (by omega) (by decide) fun m hm0 hm1 => ?_
  walk_at "wpx"
  refine ⟨by omega, ?_⟩
  refine for_inv (fun j δ B => ∃ (kv : PL) (R : RF) (d3 : Option D) (k' : Nat), δ = [some (.rol (ns.map .int)), some (.ref t), some (.ref p), d3] ∧ B = up (up A p (.dk (dkI kv))) t (tw k') ∧ Rep kv R ∧ kv.length ≤ j ∧ k ≤ k' ∧ k' ≤ k + 1 + 2 * j) _ 0 (fun i x δ B M hi hI hM => ?_) ⟨[], noF, none, k + 1, rfl, rfl, Rep.nil, Nat.zero_le _, by omega, by omega⟩ ?_
  · obtain ⟨kv, R, d3, k', rfl, rfl, r, hl, h1, h2⟩ := hI
    have hlen := (List.getElem?_eq_some_iff.mp hi).1
    rw [rgD_len] at hlen
    rw [Nat.zero_add] at hl h2 hM
    refine ⟨True.intro, ?_⟩
    rw [g_nm]
    unfold IR.law_rows_k22_b1
    walk_at "wpx"
    refine hD _ ns up_same (by omega) (by decide) fun w hw0 hw1 => ?_
    walk_at "wpx"
    refine hD _ ns up_same (by omega) (by decide) fun key hk0 hk1 => ?_
    rw [up_up, up_up]
    refine x_subD (show up (up A p _) t _ p = some _ by rw [up_ne hne.symm, up_same]) (by omega) ?_
    rw [up_comm hne, up_up]
    refine later_go ?_
    walk_at "wpx"
    refine hM _ _ ⟨put kv key w, updF R key (some w), _, k' + 1 + 1, rfl, rfl, r.put w hk0 (by omega), ?_, by omega, by omega⟩
    unfold put; split
    · rw [List.length_map]; omega
    · rw [List.length_append, List.length_singleton]; omega
  · rintro δ B ⟨kv, R, d3, k', rfl, rfl, r, hl, h1, h2⟩
    rw [Nat.zero_add, rgD_len] at hl h2
    refine ⟨True.intro, ?_⟩
    walk_at "wgo"
    exact ret_here (q p kv R k' np hne r (by omega) (by omega) (by omega))
theorem law_window22 (hD : Draws G) (hG3 : G.fn 103 = some ⟨3, 3, IR.law_pick⟩) (hG : G.fn 108 = some ⟨2, 3, IR.law_window_k22⟩) (ns : List Int) {t : Addr} {k : Nat} (ht : A t = some (tw k)) (hk : k < 90000) (h : ∀ p : Int × Int, okSt p → Q (prD p) (up A t (tw (k + 3)))) : callN G (n + 3) 108 [.rol (ns.map .int), .ref t] A Q E := by
  refine callN_mk hG rfl ?_
  unfold IR.law_window_k22
  walk_at "wpx"
  refine hD _ ns ht (by omega) (by decide) fun r0 h00 h01 => ?_
  walk_at "wgo"
  intro q nq
  have hs3 := gr_new (o := .lst [.int 8, .int 30, .int 100]) (DL.Sub.refl _) nq
  have htq : t ≠ q := ne_free up_same nq
  walk_at "wpx"
  refine pick_lst hD hG3 _ ns (gr_t hs3) (by omega) htq up_same (by simp) fun x hx2 => ?_
  have hs4 := gr_up (u := tw (k + 2)) hs3
  have : ∃ v : Int, x = .int v ∧ 0 < v ∧ v ≤ 100 := by
    simp only [List.mem_cons, List.not_mem_nil, or_false] at hx2
    rcases hx2 with rfl | rfl | rfl <;> exact ⟨_, rfl, by decide, by decide⟩
  obtain ⟨v, rfl, hv0, hv1⟩ := this
  walk_at "wpx"
  refine hD _ ns (gr_t hs4) (by omega) (by split <;> omega) fun r2 h20 h21 => ?_
  have hs5 := gr_up (u := tw (k + 3)) hs4
  walk_at "wgo"
  refine ret_at hs5 (h (r0, r0 + 1 + r2) ⟨h00, ?_, ?_⟩) <;> dsimp only
  · omega
  · split at h21 <;> omega
end
/-- a town, a source, a dict of its rows -/
structure W2 (A : AH) (t : Addr) (k : Nat) (d : Addr) (a : SA) (v : SV) (kv : PL) : Prop where
  ht : A t = some (tw k)
  src : Src A a v
  hd : A d = some (.dk (dkI kv))
  r : Rep kv v.now
  nd : [t, d, a.s, a.st, a.ch].Nodup
theorem SV.now_put {v : SV} {k : Int} {w : Option Int} : (v.put k w).now = updF v.now k w := by
  show (v.Rs ++ [updF v.now k w]).getLastD noF = _
  rw [List.getLastD_eq_getLast?, List.getLast?_append]; rfl
section
variable {G : Gm} {n : Nat} {A B : AH} {Q : QE} {E : XQ} {t d : Addr} {k k' : Nat} {a : SA} {v v' : SV} {kv : PL} {L : List Addr}
theorem W2.fr (w : W2 A t k d a v kv) (f : Fr L A B) (h : ∀ x ∈ [t, d, a.s, a.st, a.ch], x ∉ L) : W2 B t k d a v kv :=
  ⟨f.at (h _ (by simp)) w.ht, w.src.fr f (h _ (by simp)) (h _ (by simp)) (h _ (by simp)), f.at (h _ (by simp)) w.hd, w.r, w.nd⟩
theorem W2.draw (w : W2 A t k d a v kv) : W2 (up A t (tw k')) t k' d a v kv := by
  have hf : Fr [t] A (up A t (tw k')) := Fr.refl.up (by simp)
  exact ⟨up_same, w.src.frN w.nd hf 2 [0] rfl rfl rfl rfl (by decide) (by decide) (by decide), kp_up w.hd (nd_ne w.nd 1 0 (by decide) rfl rfl), w.r, w.nd⟩
theorem W2.fdraw : Fr [t] A (up A t (tw k')) := Fr.refl.up (by simp)
theorem W2.live (w : W2 A t k d a v kv) {p : Addr} (np : A p = none) : ∀ x ∈ [t, d, a.s, a.st, a.ch], x ≠ p := by
  obtain ⟨sts, est, _⟩ := w.src.st
  intro x hx
  simp only [List.mem_cons, List.not_mem_nil, or_false] at hx
  rcases hx with rfl | rfl | rfl | rfl | rfl
  · exact ne_free w.ht np
  · exact ne_free w.hd np
  · exact ne_free w.src.o np
  · exact ne_free est np
  · exact ne_free w.src.ch np
theorem W2.ask (w : W2 A t k d a v kv) {v' : SV} (hs : Src B a v') (f : Fr [a.s] A B) (e : v'.now = v.now) : W2 B t k d a v' kv :=
  ⟨f.at (nd_nin w.nd 0 [2] rfl rfl (by decide)) w.ht, hs, f.at (nd_nin w.nd 1 [2] rfl rfl (by decide)) w.hd, by rw [e]; exact w.r, w.nd⟩
/-- a key that a row's rows have, or one by cells -/
theorem x_picks {ks : List Int} {r0 : Int} (hk : ∀ k ∈ ks, 0 ≤ k ∧ k < 100) (h0 : 0 ≤ r0) (h1 : r0 < 100) {x : D} (hx : x ∈ ks.map D.int ++ [.int r0]) : ∃ key : Int, x = .int key ∧ 0 ≤ key ∧ key < 100 := by
  rcases List.mem_append.mp hx with hx | hx
  · obtain ⟨key, hkey, rfl⟩ := List.mem_map.mp hx
    exact ⟨key, rfl, hk key hkey⟩
  · exact ⟨r0, List.mem_singleton.mp hx, h0, h1⟩
theorem keysR_rg {R : RF} : ∀ k ∈ keysR R, 0 ≤ k ∧ k < 100 := fun k hk => mem_rgI.mp (List.mem_filter.mp hk).1
theorem W2.put {key : Int} {o : Option Int} {C : AH} {kv' : PL} (w : W2 A t k d a v kv) (hB : Src B a (v.put key o)) (f : Fr [a.st, a.ch] A B) (r' : Rep kv' (updF v.now key o)) (e : C = up B d (.dk (dkI kv'))) : W2 C t k d a (v.put key o) kv' ∧ Fr [t, d, a.s, a.st, a.ch] A C := by
  subst e
  have hf : Fr [d] B (up B d (.dk (dkI kv'))) := Fr.refl.up (by simp)
  refine ⟨⟨?_, hB.frN w.nd hf 2 [1] rfl rfl rfl rfl (by decide) (by decide) (by decide), up_same, by rw [SV.now_put]; exact r', w.nd⟩, ?_⟩
  · rw [up_ne (nd_ne w.nd 0 1 (by decide) rfl rfl)]; exact f.at (nd_nin w.nd 0 [3, 4] rfl rfl (by decide)) w.ht
  · exact (f.mono (by simp)).trans (hf.mono (by simp))
/-- the same, the dict first -/
theorem W2.put2 {key : Int} {o : Option Int} {C : AH} {kv' : PL} (w : W2 A t k d a v kv) (hd : B = up A d (.dk (dkI kv'))) (hC : Src C a (v.put key o)) (f : Fr [a.st, a.ch] B C) (r' : Rep kv' (updF v.now key o)) : W2 C t k d a (v.put key o) kv' ∧ Fr [t, d, a.s, a.st, a.ch] A C := by
  subst hd
  have hf : Fr [d] A (up A d (.dk (dkI kv'))) := Fr.refl.up (by simp)
  refine ⟨⟨?_, hC, f.at (nd_nin w.nd 1 [3, 4] rfl rfl (by decide)) up_same, by rw [SV.now_put]; exact r', w.nd⟩, ?_⟩
  · refine f.at (nd_nin w.nd 0 [3, 4] rfl rfl (by decide)) ?_
    rw [up_ne (nd_ne w.nd 0 1 (by decide) rfl rfl)]; exact w.ht
  · exact (hf.mono (by simp)).trans (f.mono (by simp))
theorem law_change22 (hD : Draws G) (h103 : G.fn 103 = some ⟨3, 3, IR.law_pick⟩) (h117 : G.fn 117 = some ⟨4, 5, IR.law_change_k22⟩) (g28 : G.fn 28 = some ⟨3, 4, IR.Source_put⟩) (g29 : G.fn 29 = some ⟨2, 3, IR.Source_drop⟩) (m17 : Mt G 1 17 28) (m6 : Mt G 1 6 29) (ns : List Int) (w : W2 A t k d a v kv) (hk : k < 90000) (hz : v.cs.length < 9999) (q : ∀ key o B k' kv', 0 ≤ key → key < 100 → (o = none ∨ ∃ w : Int, o = some w ∧ 0 ≤ w ∧ w < 10) → k ≤ k' → k' ≤ k + 4 → W2 B t k' d a (v.put key o) kv' → Fr [t, d, a.s, a.st, a.ch] A B → Q .non B) : callN G (n + 3) 117 [.rol (ns.map .int), .ref t, .ref a.s, .ref d] A Q E := by
  refine callN_mk h117 rfl ?_
  unfold IR.law_change_k22
  walk_at "wpx"
  refine x_sortdA w.r w.hd ?_
  walk_at "wgo"
  refine hD _ ns w.ht (by omega) (by decide) fun r0 h00 h01 => ?_
  have w1 := w.draw (k' := k + 1)
  have f1 : Fr [t, d, a.s, a.st, a.ch] A (up A t (tw (k + 1))) := W2.fdraw.mono (by simp)
  generalize up A t (tw (k + 1)) = A1 at w1 f1 ⊢
  walk_at "wgo"
  refine ⟨DL.size_ok (by have := keysR_len v.now; simp; omega), ?_⟩
  walk_at "wgo"
  refine pick_fl hD h103 _ ns w1.ht (by omega) (by simp) fun x hx => ?_
  obtain ⟨key, rfl, k0, k1⟩ := x_picks keysR_rg h00 h01 hx
  have w2 := w1.draw (k' := k + 1 + 1)
  have f2 : Fr [t, d, a.s, a.st, a.ch] A (up A1 t (tw (k + 1 + 1))) := f1.trans (W2.fdraw.mono (by simp))
  generalize up A1 t (tw (k + 1 + 1)) = A2 at w2 f2 ⊢
  walk_at "wgo"
  refine hD _ ns w2.ht (by omega) (by decide) fun r2 h20 h21 => ?_
  have w3 := w2.draw (k' := k + 1 + 1 + 1)
  have f3 : Fr [t, d, a.s, a.st, a.ch] A (up A2 t (tw (k + 1 + 1 + 1))) := f2.trans (W2.fdraw.mono (by simp))
  generalize up A2 t (tw (k + 1 + 1 + 1)) = A3 at w3 f3 ⊢
  walk_at "wgo"
  cases er : decide (r2 = 0) with
  | true =>
    walk_at "wgo"
    rw [x_meth m6 w3.src.o]
    walk_at "wgo"
    refine drop_ok g29 w3.src hz fun B hB hf => ?_
    walk_at "wgo"
    have hdB : B d = some (.dk (dkI kv)) := hf.at (nd_nin w3.nd 1 [3, 4] rfl rfl (by decide)) w3.hd
    rw [show tyB .dpop = .dict from rfl, x_isD hdB]
    refine ⟨trivial, ?_⟩
    refine x_dpop2 w3.r hdB fun x kv' r2 => ?_
    walk_at "wgo"
    obtain ⟨q1, q2⟩ := w3.put hB hf r2 rfl
    exact ret_here (q key none _ _ kv' k0 k1 (.inl rfl) (by omega) (by omega) q1 (f3.trans q2))
  | false =>
    walk_at "wgo"
    refine hD _ ns w3.ht (by omega) (by decide) fun r3 h30 h31 => ?_
    have w4 := w3.draw (k' := k + 1 + 1 + 1 + 1)
    have f4 : Fr [t, d, a.s, a.st, a.ch] A (up A3 t (tw (k + 1 + 1 + 1 + 1))) := f3.trans (W2.fdraw.mono (by simp))
    generalize up A3 t (tw (k + 1 + 1 + 1 + 1)) = A4 at w4 f4 ⊢
    walk_at "wgo"
    have hl := w4.r.len
    refine x_subD w4.hd (by omega) ?_
    have hf : Fr [d] A4 (up A4 d (.dk (dkI (DP.put kv key r3)))) := Fr.refl.up (by simp)
    have s5 := w4.src.frN w4.nd hf 2 [1] rfl rfl rfl rfl (by decide) (by decide) (by decide)
    have r5 := w4.r.put r3 k0 k1
    walk_at "wgo"
    rw [x_meth m17 s5.o]
    walk_at "wgo"
    refine x_ixD r5 (show updF v.now key (some r3) key = some r3 by unfold updF; rw [if_pos rfl]) (.inl ⟨d, rfl, .inl up_same⟩) ?_
    walk_at "wgo"
    refine put_ok g28 s5 k0 k1 hz fun C hC hg => ?_
    walk_at "wgo"
    obtain ⟨q1, q2⟩ := w4.put2 rfl hC hg r5
    exact ret_here (q key (some r3) _ _ _ k0 k1 (.inr ⟨r3, rfl, h30, h31⟩) (by omega) (by omega) q1 (f4.trans q2))
end
end DP

set_option Elab.async false
set_option linter.all false
set_option maxRecDepth 100000
/-! equal things; what a source's history tells -/
namespace DP
open DL PySem
open L2 hiding prD
theorem ne_same {d : D} {A : AH} {Q : QE} (hd : itr 6 d) (q : Q (.bl false) A) : dCmp .ne d d A Q :=
  ne_any hd hd fun b hb => by rw [hb.mpr rfl]; exact q
theorem rowsF_app {R : RF} {a m b : Int} (h1 : a ≤ m) (h2 : m ≤ b) : rowsF R a m ++ rowsF R m b = rowsF R a b := by
  refine pwp_ext ?_ (rowsF_pw R a b) fun p => ?_
  · rw [List.pairwise_append]
    refine ⟨rowsF_pw R a m, rowsF_pw R m b, fun x hx y hy => ?_⟩
    have := (mem_rowsF.mp hx).2.2.1
    have := (mem_rowsF.mp hy).2.1
    omega
  · rw [List.mem_append, mem_rowsF, mem_rowsF, mem_rowsF]
    constructor
    · rintro (⟨q1, q2, q3, q4⟩ | ⟨q1, q2, q3, q4⟩)
      · exact ⟨q1, q2, by omega, q4⟩
      · exact ⟨q1, by omega, q3, q4⟩
    · rintro ⟨q1, q2, q3, q4⟩
      by_cases c : p.1 < m
      · exact .inl ⟨q1, q2, c, q4⟩
      · exact .inr ⟨q1, by omega, q3, q4⟩
theorem spd_app {l m : PL} : D.tup (prs l ++ prs m) = spd (l ++ m) := by unfold spd prs; rw [List.map_append]
/-- what a change leaves -/
structure Hist (v : SV) : Prop where
  len : v.Rs.length = v.cs.length + 1
  rg : ∀ k ∈ v.cs, 0 ≤ k ∧ k < 100
  st : ∀ (i : Nat) (k : Int), i < v.cs.length → v.cs[i]? ≠ some k → v.at ((i : Int) + 1) k = v.at i k
theorem Hist.new (R : RF) : Hist (SV.new R) := ⟨rfl, (fun k hk => by cases hk), fun i k hi => by cases hi⟩
theorem Hist.ask {v : SV} (h : Hist v) (x y : Int) : Hist (v.ask x y) := ⟨h.len, h.rg, h.st⟩
theorem at_put {v : SV} (h : v.Rs.length = v.cs.length + 1) (key : Int) (w : Option Int) {c : Int} (h0 : 0 ≤ c) (h1 : c ≤ v.cs.length) : (v.put key w).at c = v.at c := by
  show (v.Rs ++ [updF v.now key w]).getD c.toNat noF = v.Rs.getD c.toNat noF
  rw [List.getD_eq_getElem?_getD, List.getElem?_append_left (by omega), List.getD_eq_getElem?_getD]
theorem at_put_last {v : SV} (h : v.Rs.length = v.cs.length + 1) (key : Int) (w : Option Int) : (v.put key w).at ((v.cs.length : Int) + 1) = updF v.now key w := by
  show (v.Rs ++ [updF v.now key w]).getD ((v.cs.length : Int) + 1).toNat noF = _
  rw [List.getD_eq_getElem?_getD, List.getElem?_append_right (by omega)]
  have : ((v.cs.length : Int) + 1).toNat - v.Rs.length = 0 := by omega
  rw [this]; rfl
theorem Hist.put {v : SV} (h : Hist v) {key : Int} (w : Option Int) (h0 : 0 ≤ key) (h1 : key < 100) : Hist (v.put key w) := by
  refine ⟨?_, fun k hk => ?_, fun i k hi hk => ?_⟩
  · show (v.Rs ++ _).length = (v.cs ++ _).length + 1
    rw [List.length_append, List.length_append, h.len]; rfl
  · rcases List.mem_append.mp hk with hk | hk
    · exact h.rg k hk
    · rw [List.mem_singleton.mp hk]; exact ⟨h0, h1⟩
  · have hl : (v.put key w).cs.length = v.cs.length + 1 := by show (v.cs ++ _).length = _; rw [List.length_append]; rfl
    rw [hl] at hi
    have hg : (v.put key w).cs[i]? = (v.cs ++ [key])[i]? := rfl
    rw [hg] at hk
    by_cases c : i < v.cs.length
    · rw [List.getElem?_append_left c] at hk
      rw [at_put h.len _ _ (by omega) (by omega), at_put h.len _ _ (by omega) (by omega)]
      exact h.st i k c hk
    · have : i = v.cs.length := by omega
      subst this
      rw [List.getElem?_append_right (Nat.le_refl _), Nat.sub_self] at hk
      rw [at_put_last h.len, at_put h.len _ _ (by omega) (by omega), now_at h.len]
      unfold updF
      rw [if_neg (fun e => hk (by rw [e]; rfl))]
/-- a key that did not change since -/
theorem Hist.since {v : SV} (h : Hist v) {k : Int} : ∀ (m c : Nat), c + m = v.cs.length → k ∉ v.cs.drop c → v.now k = v.at c k
  | 0, c, e, _ => by rw [now_at h.len, ← e]; rfl
  | m + 1, c, e, hk => by
    have hc : c < v.cs.length := by omega
    rw [List.drop_eq_getElem_cons hc, List.mem_cons, not_or] at hk
    rw [Hist.since h m (c + 1) (by omega) hk.2]
    have := h.st c k hc (by rw [List.getElem?_eq_getElem hc]; intro e2; injection e2 with e2; exact hk.1 e2.symm)
    rw [← this]; rfl
theorem Hist.un {v : SV} (h : Hist v) {c : Int} (h0 : 0 ≤ c) (h1 : c ≤ v.cs.length) {k : Int} (hk : v.at c k ≠ v.now k) : k ∈ v.cs.drop c.toNat := by
  by_cases q : k ∈ v.cs.drop c.toNat
  · exact q
  · have := h.since (v.cs.length - c.toNat) c.toNat (by omega) q
    rw [show ((c.toNat : Nat) : Int) = c by omega] at this
    exact absurd this.symm hk
end DP

set_option Elab.async false
set_option linter.all false
set_option maxRecDepth 100000
/-! equal things with None among them -/
namespace DP
open DL PySem
open L2 hiding prD
mutual
def itn : Nat → D → Prop
  | _, .int _ => True
  | _, .non => True
  | n + 1, .tup ds => itns n ds
  | _, _ => False
def itns : Nat → List D → Prop
  | _, [] => True
  | n, d :: ds => itn n d ∧ itns n ds
end
end DP

set_option Elab.async false
set_option linter.all false
set_option maxRecDepth 100000
/-! answers: the latest clock of all -/
namespace DP
open DL PySem
open L2 hiding prD
end DP

set_option Elab.async false
set_option linter.all false
set_option maxRecDepth 100000
/-! mixed rows; live dicts looked at -/
namespace DP
open DL PySem
open L2 hiding prD
theorem Rep.perm {kv lw : PL} {R : RF} (h : Rep kv R) (p : lw.Perm kv) : Rep lw R :=
  ⟨(p.map _).nodup_iff.mpr h.nd, fun k v => by rw [p.mem_iff]; exact h.val k v, fun x hx => h.rg x (p.mem_iff.mp hx)⟩
end DP

set_option Elab.async false
set_option linter.all false
set_option maxRecDepth 100000
/-! keepers -/
namespace DP
open DL PySem
open L2 hiding prD
/-- a keeper's cells: its own, that of the stamps, that of the rows -/
structure KA where
  k : Addr
  kt : Addr
  kr : Addr
/-- what a keeper knows -/
structure KV where
  room : Int
  cost : Int
  heard : Int
  turn : Int
  st : RF
  rw : RF
def kpO (q : KA) (s : Addr) (w : KV) : AO := .ins 2 [.ref s, .int w.room, .int w.cost, .int w.heard, .int w.turn, .ref q.kt, .ref q.kr]
structure Kp (A : AH) (q : KA) (s : Addr) (w : KV) : Prop where
  o : A q.k = some (kpO q s w)
  st : ∃ kv, A q.kt = some (.dk (dkI kv)) ∧ Rep kv w.st
  rw : ∃ kv, A q.kr = some (.dk (dkI kv)) ∧ Rep kv w.rw
  sub : ∀ k, w.st k = none → w.rw k = none
  n1 : q.k ≠ q.kt
  n2 : q.k ≠ q.kr
  n3 : q.kt ≠ q.kr
def KA.L (q : KA) : List Addr := [q.k, q.kt, q.kr]
theorem Kp.fr {A B : AH} {q : KA} {s : Addr} {w : KV} {L : List Addr} (h : Kp A q s w) (f : Fr L A B) (h1 : q.k ∉ L) (h2 : q.kt ∉ L) (h3 : q.kr ∉ L) : Kp B q s w := by
  obtain ⟨o, ⟨kv, e1, r1⟩, ⟨kw, e2, r2⟩, sub, n1, n2, n3⟩ := h
  exact ⟨f.at h1 o, ⟨kv, f.at h2 e1, r1⟩, ⟨kw, f.at h3 e2, r2⟩, sub, n1, n2, n3⟩
theorem Kp.frN {A B : AH} {q : KA} {s : Addr} {w : KV} {L M : List Addr} (hn : L.Nodup) (h : Kp A q s w) (f : Fr M A B) (i : Nat) (js : List Nat) (e0 : L[i]? = some q.k) (e1 : L[i + 1]? = some q.kt) (e2 : L[i + 2]? = some q.kr) (hj : js.map (fun j => L[j]?) = M.map some) (d0 : i ∉ js) (d1 : i + 1 ∉ js) (d2 : i + 2 ∉ js) : Kp B q s w :=
  h.fr f (nd_nin hn i js e0 hj d0) (nd_nin hn (i + 1) js e1 hj d1) (nd_nin hn (i + 2) js e2 hj d2)
theorem Kp.live {A : AH} {q : KA} {s : Addr} {w : KV} (h : Kp A q s w) {p : Addr} (np : A p = none) : ∀ x ∈ q.L, x ≠ p := by
  obtain ⟨kv, e1, r1⟩ := h.st
  obtain ⟨kw, e2, r2⟩ := h.rw
  intro x hx
  unfold KA.L at hx
  simp only [List.mem_cons, List.not_mem_nil, or_false] at hx
  rcases hx with rfl | rfl | rfl
  · exact ne_free h.o np
  · exact ne_free e1 np
  · exact ne_free e2 np
theorem Kp.rg {A : AH} {q : KA} {s : Addr} {w : KV} (h : Kp A q s w) {k : Int} {t : Int} (e : w.st k = some t) : 0 ≤ k ∧ k < 100 := by
  obtain ⟨kv, _, r⟩ := h.st
  exact r.rgR e
/-- the spread of all keys that are kept -/
def kn (w : KV) : PL := spB (keysR w.st)
theorem kn_ok (w : KV) : okF 0 (kn w) := spB_ok _
theorem keysR_mem' {R : RF} {k : Int} : k ∈ keysR R ↔ (0 ≤ k ∧ k < 100) ∧ R k ≠ none := by
  unfold keysR
  rw [List.mem_filter, mem_rgI]
  refine and_congr_right fun _ => ?_
  cases R k <;> simp
theorem kn_has' (w : KV) {k : Int} (h0 : 0 ≤ k) (h1 : k < 100) : hasD (kn w) k = (w.st k).isSome := by
  unfold kn
  rw [spB_has keysR_rg, Bool.eq_iff_iff, decide_eq_true_eq, keysR_mem']
  cases w.st k <;> simp [h0, h1]
theorem Kp.kn_has {A : AH} {q : KA} {s : Addr} {w : KV} (h : Kp A q s w) (k : Int) : hasD (kn w) k = (w.st k).isSome := by
  unfold kn
  rw [spB_has keysR_rg, Bool.eq_iff_iff, decide_eq_true_eq, keysR_mem']
  cases e : w.st k with
  | none => simp
  | some t => simp [h.rg e]
/-- rows left when keys are taken -/
def lessF (R : RF) (ks : List Int) : RF := fun k => if k ∈ ks then none else R k
theorem less_nil (R : RF) : lessF R [] = R := by funext k; unfold lessF; rw [if_neg (by simp)]
theorem less_snoc (R : RF) (ks : List Int) (k : Int) : updF (lessF R ks) k none = lessF R (ks ++ [k]) := by
  funext j; unfold updF lessF
  by_cases h : j = k
  · subst h; simp
  · rw [if_neg h]
    by_cases h2 : j ∈ ks
    · rw [if_pos h2, if_pos (by simp [h2])]
    · rw [if_neg h2, if_neg (by simp [h2, h])]
def KV.less (w : KV) (ks : List Int) : KV := { w with st := lessF w.st ks, rw := lessF w.rw ks }
theorem x_dpop1 {p : Addr} {kv : PL} {R : RF} (r : Rep kv R) {k w : Int} (hk : R k = some w) {A : AH} {Q : QE} (hp : A p = some (.dk (dkI kv))) (q : ∀ x kv', Rep kv' (updF R k none) → Q x (up A p (.dk (dkI kv')))) : dBm .dpop (.ref p) [.int k] A Q := by
  show (match A p, keyD (.int k) with | some (.dk kvs), some k => (match valD kvs k with | some v => Q v (up A p (.dk (dropD kvs k))) | none => False) | _, _ => False)
  simp only [hp, keyD, r.valD k, hk, Option.map_some]
  rw [drop_dk]
  exact q _ _ (r.drop k)
structure KpG (G : Gm) : Prop where
  g4 : G.fn 4 = some ⟨1, 4, IR.spread_of⟩
  g5 : G.fn 5 = some ⟨1, 2, IR.spread_by⟩
  g8 : G.fn 8 = some ⟨1, 4, IR.keys_of⟩
  g10 : G.fn 10 = some ⟨2, 7, IR.met⟩
  g11 : G.fn 11 = some ⟨3, 7, IR.turned_out⟩
  g14 : G.fn 14 = some ⟨3, 3, IR.lacking⟩
  g17 : G.fn 17 = some ⟨2, 5, IR.asks⟩
  c : ChG G
  l : LkG G
  g24 : G.fn 24 = some ⟨3, 3, IR.Source_look⟩
  m11 : Mt G 1 11 24
  g26 : G.fn 26 = some ⟨3, 3, IR.Source_ask⟩
  m2s : Mt G 1 2 26
  m4 : Mt G 1 4 30
  g34 : G.fn 34 = some ⟨1, 1, IR.Keeper_known⟩
  g35 : G.fn 35 = some ⟨2, 3, IR.Keeper_forget⟩
  g36 : G.fn 36 = some ⟨1, 2, IR.Keeper_hear⟩
  g37 : G.fn 37 = some ⟨4, 6, IR.Keeper_take⟩
  g38 : G.fn 38 = some ⟨1, 4, IR.Keeper_shrink⟩
  g39 : G.fn 39 = some ⟨3, 4, IR.Keeper_told⟩
  g41 : G.fn 41 = some ⟨3, 3, IR.Keeper_plan⟩
  g42 : G.fn 42 = some ⟨3, 7, IR.Keeper_ask⟩
  m10 : Mt G 2 10 34
  m8 : Mt G 2 8 35
  m9 : Mt G 2 9 36
  m21 : Mt G 2 21 37
  m19 : Mt G 2 19 38
  m22 : Mt G 2 22 39
  m16 : Mt G 2 16 41
section
variable {G : Gm} {n : Nat} {A : AH} {q : KA} {s : Addr} {w : KV} {Q : QE} {E : XQ} {x y : Int} {a : SA} {v : SV}
theorem known_ok (g : KpG G) (h : Kp A q s w) (k : Q (spd (kn w)) A) : callN G (n + 3) 34 [.ref q.k] A Q E := by
  obtain ⟨kv, e1, r1⟩ := h.st
  refine callN_mk g.g34 rfl ?_
  unfold IR.Keeper_known
  walk_at "wpx"
  rw [x_fld h.o rfl]
  refine x_sortdA r1 e1 ?_
  walk_at "wgo"
  refine spread_by_seq g.g5 g.g4 (keysR w.st) (.inl rfl) keysR_rg (by have := keysR_len w.st; omega) ?_
  exact ret_here k
/-- one key forgotten -/
theorem Kp.pop {B : AH} {kt kr : PL} {ks : List Int} {key : Int} (h : Kp A q s w) (e : B = up (up A q.kt (.dk (dkI kt))) q.kr (.dk (dkI kr))) (r1 : Rep kt (updF w.st key none)) (r2 : Rep kr (updF w.rw key none)) : Kp B q s { w with st := updF w.st key none, rw := updF w.rw key none } := by
  subst e
  refine ⟨by rw [up_ne h.n2, up_ne h.n1]; exact h.o, ⟨kt, by rw [up_ne h.n3]; exact up_same, r1⟩, ⟨kr, up_same, r2⟩, fun k hk => ?_, h.n1, h.n2, h.n3⟩
  have hk : updF w.st key none k = none := hk
  show updF w.rw key none k = none
  unfold updF at hk ⊢
  split at hk
  · next c => rw [if_pos c]
  · next c => rw [if_neg c]; exact h.sub k hk
/-- the loop that pops keys -/
theorem pop_one (h : Kp A q s w) {key t : Int} (hk : w.st key = some t) {δ : DSt} {c : CallT} {P : Pst} {e : IE} (hs : ∀ A Q E, wpE c G (.var 0) δ A Q E = Q (.ref q.k) A) (hv : ∀ A Q E, wpE c G e δ A Q E = Q (.int key) A) (k : ∀ B, Kp B q s (w.less [key]) → Fr [q.kt, q.kr] A B → P.nx δ B) : wpSs c G [(.expr (.bm .dpop (.fld 2 5 (.var 0)) [e])), (.expr (.bm .dpop (.fld 2 6 (.var 0)) [e, (.cst .non)]))] P δ A := by
  obtain ⟨kt, e1, r1⟩ := h.st
  obtain ⟨kr, e2, r2⟩ := h.rw
  rw [wq_scons, wq_expr, wq_bm, wq_fldK, hs, x_fld h.o rfl]
  rw [show tyB .dpop = .dict from rfl, x_isD e1]
  refine ⟨trivial, ?_⟩
  rw [wq_cons, hv, wq_nil]
  refine x_dpop1 r1 hk e1 fun x kt' r1' => ?_
  have ho : up A q.kt (.dk (dkI kt')) q.k = some (kpO q s w) := by rw [up_ne h.n1]; exact h.o
  have he2 : up A q.kt (.dk (dkI kt')) q.kr = some (.dk (dkI kr)) := by rw [up_ne h.n3.symm]; exact e2
  show wpSs c G [_] P δ _
  rw [wq_scons, wq_expr, wq_bm, wq_fldK, hs, x_fld ho rfl]
  rw [show tyB .dpop = .dict from rfl, x_isD he2]
  refine ⟨trivial, ?_⟩
  rw [wq_cons, hv, wq_cons, wq_cst, wq_nil]
  refine x_dpop2 r2 he2 fun x kr' r2' => ?_
  show wpSs c G [] P δ _
  rw [wq_snil]
  have := h.pop (ks := []) rfl r1' r2'
  refine k _ ?_ ((Fr.refl.up (by simp)).up (by simp))
  have e3 : (w.less [key]) = { w with st := updF w.st key none, rw := updF w.rw key none } := by
    unfold KV.less
    have l1 := less_snoc w.st [] key
    have l2 := less_snoc w.rw [] key
    rw [less_nil, List.nil_append] at l1 l2
    rw [l1, l2]
  rw [e3]
  exact this
theorem less_less {w : KV} {ks ls : List Int} : (w.less ks).less ls = w.less (ks ++ ls) := by
  unfold KV.less
  have : ∀ R : RF, lessF (lessF R ks) ls = lessF R (ks ++ ls) := fun R => by
    funext k; unfold lessF
    by_cases h1 : k ∈ ls
    · rw [if_pos h1, if_pos (by simp [h1])]
    · rw [if_neg h1]
      by_cases h2 : k ∈ ks
      · rw [if_pos h2, if_pos (by simp [h2])]
      · rw [if_neg h2, if_neg (by simp [h1, h2])]
  rw [show ({ w with st := lessF w.st ks, rw := lessF w.rw ks } : KV).st = lessF w.st ks from rfl, show ({ w with st := lessF w.st ks, rw := lessF w.rw ks } : KV).rw = lessF w.rw ks from rfl, this, this]
theorem less_nil' {w : KV} : w.less [] = w := by unfold KV.less; rw [less_nil, less_nil]
theorem forget_ok (g : KpG G) (h : Kp A q s w) {l : PL} (hl : okF 0 l) (k : ∀ B, Kp B q s (w.less (keysOf (mt (kn w) l))) → Fr [q.kt, q.kr] A B → Q .non B) : callN G (n + 5) 35 [.ref q.k, spd l] A Q E := by
  refine callN_mk g.g35 rfl ?_
  unfold IR.Keeper_forget
  walk_at "wpx"
  rw [x_meth g.m10 h.o]
  walk_at "wpx"
  refine known_ok g h ?_
  refine met_ok g.g4 g.g10 _ (kn_ok w) hl ?_
  have hm := mt_ok (kn w) l
  refine keys_of_tup g.g8 _ _ (okp hm) (okl hm) ?_
  have hks := keysOf_pw hm
  have hin : ∀ z ∈ keysOf (mt (kn w) l), ∃ t, w.st z = some t := fun z hz => by
    have hz := mem_keysOf.mp hz
    rw [mt_has (kn_ok w), Bool.and_eq_true, h.kn_has] at hz
    exact Option.isSome_iff_exists.mp hz.1
  generalize keysOf (mt (kn w) l) = ks at hks hin k
  walk_at "wpx"
  refine for_inv (fun j δ B => ∃ d2, δ = [some (.ref q.k), some (spd l), d2] ∧ Kp B q s (w.less (ks.take j)) ∧ Fr [q.kt, q.kr] A B) _ 0 (fun i z δ B M hi hI hM => ?_) ⟨none, rfl, by rw [List.take_zero, less_nil']; exact h, Fr.refl⟩ ?_
  · obtain ⟨d2, rfl, hB, f⟩ := hI
    obtain ⟨key, hkey, rfl⟩ := List.getElem?_map ▸ hi |> Option.map_eq_some_iff.mp
    rw [Nat.zero_add] at hB hM
    refine ⟨True.intro, ?_⟩
    rw [g_nm]
    unfold IR.Keeper_forget_b1
    obtain ⟨t, ht⟩ := hin key (List.mem_of_getElem? hkey)
    have hno : key ∉ ks.take i := fun hm => by
      have e1 : ks.take (i + 1) = ks.take i ++ [key] := by rw [List.take_add_one, hkey]; rfl
      have := hks.sublist (List.take_sublist (i + 1) ks)
      rw [e1, List.pairwise_append] at this
      have := this.2.2 key hm key (by simp)
      omega
    refine pop_one hB (key := key) (t := t) (show lessF w.st (ks.take i) key = some t by unfold lessF; rw [if_neg hno]; exact ht) (fun A Q E => rfl) (fun A Q E => rfl) fun C hC f2 => ?_
    refine hM _ _ ⟨_, rfl, ?_, f.trans f2⟩
    rw [less_less] at hC
    rw [List.take_add_one, hkey]; exact hC
  · rintro δ B ⟨d2, rfl, hB, f⟩
    rw [Nat.zero_add, List.length_map, List.take_length] at hB
    refine ⟨True.intro, ?_⟩
    walk_at "wgo"
    exact ret_here (k B hB f)
/-- the keys that are old -/
def oldK (w : KV) (v : SV) : PL := mt (kn w) (spB (v.cs.drop w.heard.toNat))
def KV.hear (w : KV) (v : SV) : KV := { w with heard := v.cs.length, st := fun k => if k ∈ v.cs.drop w.heard.toNat then none else w.st k, rw := fun k => if k ∈ v.cs.drop w.heard.toNat then none else w.rw k }
theorem oldK_has (h : Kp A q s w) (hr : ∀ k ∈ v.cs, 0 ≤ k ∧ k < 100) (k : Int) : hasD (oldK w v) k = ((w.st k).isSome && decide (k ∈ v.cs.drop w.heard.toNat)) := by
  unfold oldK
  rw [mt_has (kn_ok w), h.kn_has, spB_has fun k hk => hr k (List.mem_of_mem_drop hk)]
theorem hear_ok (g : KpG G) (h : Kp A q a.s w) (hs : Src A a v) (hr : ∀ k ∈ v.cs, 0 ≤ k ∧ k < 100) (h0 : 0 ≤ w.heard) (h1 : w.heard ≤ v.cs.length) (na : [a.s, a.st, a.ch, q.k, q.kt, q.kr].Nodup) (k : ∀ B, Kp B q a.s (w.hear v) → Fr [q.k, q.kt, q.kr] A B → Q (spd (oldK w v)) B) : callN G (n + 6) 36 [.ref q.k] A Q E := by
  refine callN_mk g.g36 rfl ?_
  unfold IR.Keeper_hear
  walk_at "wpx"
  rw [x_meth g.m10 h.o]
  walk_at "wpx"
  refine known_ok g h ?_
  rw [x_fld h.o rfl, x_meth g.m4 hs.o]
  walk_at "wpx"
  rw [x_fld h.o rfl]
  refine changes_ok g.c hs hr h0 h1 ?_
  refine met_ok g.g4 g.g10 _ (kn_ok w) (spB_ok _) ?_
  rw [show mt (kn w) (spB (v.cs.drop w.heard.toNat)) = oldK w v from rfl]
  refine later_go ?_
  walk_at "wpx"
  rw [x_meth g.m8 h.o]
  walk_at "wpx"
  have hok : okF 0 (oldK w v) := mt_ok _ _
  refine forget_ok g h hok fun B hB f => ?_
  refine later_go ?_
  walk_at "wpx"
  have hsB : Src B a v := hs.frN na f 0 [4, 5] rfl rfl rfl rfl (by decide) (by decide) (by decide)
  rw [x_fld hB.o rfl, x_meth g.c.m5 hsB.o]
  walk_at "wpx"
  refine clock_ok g.c.g22 hsB ?_
  rw [x_put hB.o (by simp)]
  refine later_go ?_
  walk_at "wpx"
  have hm : ∀ j, j ∈ keysOf (mt (kn w) (oldK w v)) ↔ (w.st j ≠ none ∧ j ∈ v.cs.drop w.heard.toNat) := fun j => by
    rw [mem_keysOf, mt_has (kn_ok w), h.kn_has, oldK_has h hr, Bool.and_eq_true, Bool.and_eq_true, decide_eq_true_eq]
    cases w.st j <;> simp
  refine ret_here (k _ ?_ ((f.mono (by simp)).trans (Fr.refl.up (by simp))))
  obtain ⟨kt, e1, r1⟩ := hB.st
  obtain ⟨kr, e2, r2⟩ := hB.rw
  have es : (w.less (keysOf (mt (kn w) (oldK w v)))).st = (w.hear v).st := by
    funext j
    show (if j ∈ _ then none else w.st j) = if j ∈ _ then none else w.st j
    by_cases c : j ∈ v.cs.drop w.heard.toNat
    · rw [if_pos c]
      split
      · rfl
      · next c2 =>
        cases e : w.st j with
        | none => rfl
        | some t => exact absurd ((hm j).mpr ⟨by rw [e]; simp, c⟩) c2
    · rw [if_neg c, if_neg fun h2 => c ((hm j).mp h2).2]
  have er : (w.less (keysOf (mt (kn w) (oldK w v)))).rw = (w.hear v).rw := by
    funext j
    show (if j ∈ _ then none else w.rw j) = if j ∈ _ then none else w.rw j
    by_cases c : j ∈ v.cs.drop w.heard.toNat
    · rw [if_pos c]
      split
      · rfl
      · next c2 =>
        refine h.sub j ?_
        cases e : w.st j with
        | none => rfl
        | some t => exact absurd ((hm j).mpr ⟨by rw [e]; simp, c⟩) c2
    · rw [if_neg c, if_neg fun h2 => c ((hm j).mp h2).2]
  refine ⟨up_same, ⟨kt, by rw [up_ne h.n1.symm]; exact e1, by rw [← es]; exact r1⟩, ⟨kr, by rw [up_ne h.n2.symm]; exact e2, by rw [← er]; exact r2⟩, fun j hj => ?_, h.n1, h.n2, h.n3⟩
  have hj : (if j ∈ v.cs.drop w.heard.toNat then none else w.st j) = none := hj
  show (if j ∈ v.cs.drop w.heard.toNat then none else w.rw j) = none
  split at hj
  · next c => rw [if_pos c]
  · next c => rw [if_neg c]; exact h.sub j hj
end
end DP

set_option Elab.async false
set_option linter.all false
set_option maxRecDepth 100000
/-! keepers: what is taken, told, planned -/
namespace DP
open DL PySem
open L2 hiding prD
/-- what a stretch told is put in -/
def inF (x y : Int) (T R : RF) : RF := fun k => if x ≤ k ∧ k < y then T k else R k
def KV.take (w : KV) (x y : Int) (T : RF) : KV := { w with st := inF x y (fun _ => some w.turn) w.st, rw := inF x y T w.rw }
theorem inF_no {x y : Int} {T R : RF} (h : y ≤ x) : inF x y T R = R := by funext k; unfold inF; rw [if_neg (by omega)]
theorem inF_snoc {x y : Int} {T R : RF} (h : x ≤ y) : updF (inF x y T R) y (T y) = inF x (y + 1) T R := by
  funext k; unfold updF inF
  by_cases c : k = y
  · rw [if_pos c, if_pos (by omega), c]
  · rw [if_neg c]
    by_cases c2 : x ≤ k ∧ k < y
    · rw [if_pos c2, if_pos (by omega)]
    · rw [if_neg c2, if_neg (by omega)]
section
variable {G : Gm} {n : Nat} {A : AH} {q : KA} {s : Addr} {w : KV} {Q : QE} {E : XQ} {x y : Int} {a : SA} {v : SV}
theorem Kp.set {B : AH} {kt kr : PL} {w' : KV} (h : Kp A q s w) (e1 : B q.k = some (kpO q s w')) (e2 : B q.kt = some (.dk (dkI kt))) (e3 : B q.kr = some (.dk (dkI kr))) (r1 : Rep kt w'.st) (r2 : Rep kr w'.rw) (sub : ∀ k, w'.st k = none → w'.rw k = none) : Kp B q s w' :=
  ⟨e1, ⟨kt, e2, r1⟩, ⟨kr, e3, r2⟩, sub, h.n1, h.n2, h.n3⟩
theorem take_ok (g37 : G.fn 37 = some ⟨4, 6, IR.Keeper_take⟩) (h : Kp A q s w) (h0 : 0 ≤ x) (h1 : y ≤ 100) (hx : x ≤ 1000) (hy : -1000 ≤ y) {l : PL} (hl : ∀ p ∈ l, 0 ≤ p.1 ∧ p.1 < 100) (k : ∀ B, Kp B q s (w.take x y (ofL l)) → Fr [q.kt, q.kr] A B → Q .non B) : callN G (n + 1) 37 [.ref q.k, .int x, .int y, .ptp (prs l)] A Q E := by
  obtain ⟨kv, e1, r⟩ := merge_rep l [] noF Rep.nil hl
  refine callN_mk g37 rfl ?_
  unfold IR.Keeper_take
  walk_at "wpx"
  rw [x_dictt, show mergeD [] (dkI l) = dkI kv from e1]
  refine newD_fz ?_
  rw [show D.rod ((dkI kv).map (·.1)) ((dkI kv).map (·.2)) = rodI kv from rfl]
  have r : Rep kv (ofL l) := r
  generalize ofL l = T at r k
  refine later_go ?_
  walk_at "wpx"
  refine ⟨by omega, ?_⟩
  refine for_inv (fun j δ B => ∃ d5, δ = [some (.ref q.k), some (.int x), some (.int y), some (.ptp (prs l)), some (rodI kv), d5] ∧ Kp B q s (w.take x (x + j) T) ∧ Fr [q.kt, q.kr] A B) _ 0 (fun i z δ B M hi hI hM => ?_) ⟨none, rfl, ?_, Fr.refl⟩ ?_
  · obtain ⟨d5, rfl, hB, f⟩ := hI
    rw [Nat.zero_add] at hB hM
    rw [rgD_eq] at hi
    obtain ⟨m, hm, rfl⟩ := List.getElem?_map ▸ hi |> Option.map_eq_some_iff.mp
    have hm1 := rgI_get hm
    have hm2 := mem_rgI.mp (List.mem_of_getElem? hm)
    have em : m = x + i := by omega
    obtain ⟨kt, f1, s1⟩ := hB.st
    obtain ⟨kr, f2, s2⟩ := hB.rw
    have lt := s1.len
    refine ⟨True.intro, ?_⟩
    unfold IR.Keeper_take_b1
    walk_at "wpx"
    rw [x_fld hB.o rfl]
    rw [show tyB .dpop = .dict from rfl, x_isD f2]
    refine ⟨trivial, ?_⟩
    refine x_dpop2 s2 f2 fun u kr1 s3 => ?_
    have lr := s3.len
    have o1 : up B q.kr (.dk (dkI kr1)) q.k = some (kpO q s (w.take x (x + i) T)) := by rw [up_ne hB.n2]; exact hB.o
    have f1' : up B q.kr (.dk (dkI kr1)) q.kt = some (.dk (dkI kt)) := by rw [up_ne hB.n3]; exact f1
    refine later_go ?_
    walk_at "wpx"
    rw [x_fld o1 rfl, x_fld o1 rfl]
    refine x_subD f1' (by omega) ?_
    rw [show (w.take x (x + i) T).turn = w.turn from rfl]
    have s4 := s1.put (k := m) w.turn (by omega) (by omega)
    have o2 : up (up B q.kr (.dk (dkI kr1))) q.kt (.dk (dkI (DP.put kt m w.turn))) q.k = some (kpO q s (w.take x (x + i) T)) := by rw [up_ne hB.n1]; exact o1
    have f3 : up (up B q.kr (.dk (dkI kr1))) q.kt (.dk (dkI (DP.put kt m w.turn))) q.kr = some (.dk (dkI kr1)) := by rw [up_ne hB.n3.symm]; exact up_same
    have f4 : up (up B q.kr (.dk (dkI kr1))) q.kt (.dk (dkI (DP.put kt m w.turn))) q.kt = some (.dk (dkI (DP.put kt m w.turn))) := up_same
    have fr2 : Fr [q.kt, q.kr] A (up (up B q.kr (.dk (dkI kr1))) q.kt (.dk (dkI (DP.put kt m w.turn)))) := f.trans ((Fr.refl.up (by simp)).up (by simp))
    generalize up (up B q.kr (.dk (dkI kr1))) q.kt (.dk (dkI (DP.put kt m w.turn))) = C at o2 f3 f4 fr2 ⊢
    have es : (w.take x (x + i + 1) T).st = updF (w.take x (x + i) T).st m (some w.turn) := by
      rw [em]; exact (inF_snoc (T := fun _ => some w.turn) (R := w.st) (by omega)).symm
    have er : (w.take x (x + i + 1) T).rw = updF (w.take x (x + i) T).rw m (T m) := by
      rw [em]; exact (inF_snoc (T := T) (R := w.rw) (by omega)).symm
    have hsub : ∀ j, (w.take x (x + i + 1) T).st j = none → (w.take x (x + i + 1) T).rw j = none := fun j hj => by
      have hj : (if x ≤ j ∧ j < x + i + 1 then some w.turn else w.st j) = none := hj
      show (if x ≤ j ∧ j < x + i + 1 then T j else w.rw j) = none
      split at hj
      · cases hj
      · next c => rw [if_neg c]; exact h.sub j hj
    have ei : x + ((i + 1 : Nat) : Int) = x + i + 1 := by omega
    refine later_go ?_
    walk_at "wpx"
    rw [x_kinR r]
    walk_at "wpx"
    cases et : T m with
    | none =>
      rw [show (none : Option Int).isSome = false from rfl]
      walk_at "wgo"
      refine hM _ _ ⟨_, rfl, ?_, fr2⟩
      rw [ei]
      refine hB.set o2 f4 f3 (by rw [es]; exact s4) ?_ hsub
      rw [er, et]; exact s3
    | some u =>
      rw [show (some u).isSome = true from rfl]
      walk_at "wgo"
      refine dIx_rod r et ?_
      rw [x_fld o2 rfl]
      walk_at "wpx"
      refine x_subD f3 (by omega) ?_
      walk_at "wgo"
      refine hM _ _ ⟨_, rfl, ?_, fr2.trans (Fr.refl.up (by simp))⟩
      rw [ei]
      refine hB.set (by rw [up_ne hB.n2]; exact o2) (by rw [up_ne hB.n3]; exact f4) up_same (by rw [es]; exact s4) ?_ hsub
      rw [er, et]
      have := s3.put (k := m) u (by omega) (by omega)
      have e7 : updF (updF (w.take x (x + i) T).rw m none) m (some u) = updF (w.take x (x + i) T).rw m (some u) := by
        funext j; unfold updF; split <;> rfl
      rw [e7] at this
      exact this
  · rw [show x + ((0 : Nat) : Int) = x by omega]
    unfold KV.take
    rw [inF_no (Int.le_refl _), inF_no (Int.le_refl _)]
    exact h
  · rintro δ B ⟨d5, rfl, hB, f⟩
    rw [Nat.zero_add, rgD_len] at hB
    refine ⟨True.intro, ?_⟩
    walk_at "wgo"
    refine ret_here (k B ?_ f)
    by_cases c : x ≤ y
    · rw [show x + ((y - x).toNat : Int) = y by omega] at hB; exact hB
    · have e1 : w.take x y T = w.take x (x + ((y - x).toNat : Int)) T := by
        unfold KV.take
        rw [inF_no (by omega), inF_no (by omega), inF_no (by omega), inF_no (by omega)]
      rw [e1]; exact hB
theorem ktold_ok (g39 : G.fn 39 = some ⟨3, 4, IR.Keeper_told⟩) (h : Kp A q s w) (k : Q (.ptp (prs (rowsF w.rw x y))) A) : callN G (n + 1) 39 [.ref q.k, .int x, .int y] A Q E := by
  obtain ⟨kr, f2, r⟩ := h.rw
  refine callN_mk g39 rfl ?_
  unfold IR.Keeper_told
  walk_at "wpx"
  rw [x_fld h.o rfl]
  refine x_sortdA r f2 ?_
  walk_at "wgo"
  have hkl := keysR_len w.rw
  refine ⟨DL.size_ok (by rw [List.length_map]; omega), ?_⟩
  refine rows_comp (R := w.rw) (a := x) (b := y) (c := callN G n) (G := G) r True.intro (fun k u hk R1 R2 r1 r2 => ?_) ?_
  · walk_at "wpx"
    cases e : decide (x ≤ k) with
    | false =>
      rw [e, Bool.false_and] at r2
      walk_at "wpx"; exact r2 rfl
    | true =>
      rw [e, Bool.true_and] at r1 r2
      walk_at "wpx"
      cases e3 : decide (k < y) with
      | false => walk_at "wpx"; exact r2 e3
      | true =>
        walk_at "wpx"
        rw [x_fld h.o rfl]
        refine x_ixD r hk (.inl ⟨q.kr, rfl, .inl f2⟩) ?_
        exact r1 e3
  walk_at "wgo"
  exact ret_here k
theorem plan_ok (g : KpG G) (h : Kp A q s w) (h0 : 0 ≤ x) (h1 : y ≤ 100) (k : Q (spd (asksL (tn (kn w) x y) w.cost)) A) : callN G (n + 4) 41 [.ref q.k, .int x, .int y] A Q E := by
  refine callN_mk g.g41 rfl ?_
  unfold IR.Keeper_plan
  walk_at "wpx"
  rw [x_meth g.m10 h.o]
  walk_at "wpx"
  refine known_ok g h ?_
  refine lacking_ok g.g11 g.g14 _ (kn_ok w) h0 h1 ?_
  rw [x_fld h.o rfl]
  refine asks_ok g.g17 _ (tn_ok _ _ _) ?_
  exact ret_here k
/-! who goes first -/
def ageL (R : RF) : PL := DL.sortP ((keysR R).map fun k => ((R k).getD 0, k))
def outK (w : KV) : List Int := ((ageL w.st).take ((ageL w.st).length - w.room).toNat).map (·.2)
def KV.shrink (w : KV) : KV := w.less (outK w)
theorem leP_anti {p q : Int × Int} (h1 : leP p q = true) (h2 : leP q p = true) : p = q := by
  unfold leP at h1 h2
  simp only [decide_eq_true_eq] at h1 h2
  obtain ⟨a, b⟩ := p
  obtain ⟨c, d⟩ := q
  dsimp only at h1 h2
  have : a = c := by omega
  have : b = d := by omega
  subst a b; rfl
theorem sorted_eq : ∀ {l m : PL}, l.Pairwise (fun p q => leP p q = true) → m.Pairwise (fun p q => leP p q = true) → l.Perm m → l = m
  | [], m, _, _, p => (List.nil_perm.mp p).symm
  | a :: l, [], _, _, p => (List.perm_nil.mp p)
  | a :: l, b :: m, h1, h2, p => by
    rw [List.pairwise_cons] at h1 h2
    have e : a = b := by
      rcases List.mem_cons.mp (p.mem_iff.mp (List.mem_cons_self (a := a))) with e | e
      · exact e
      · rcases List.mem_cons.mp (p.mem_iff.mpr (List.mem_cons_self (a := b))) with e2 | e2
        · exact e2.symm
        · exact leP_anti (h1.1 b e2) (h2.1 a e)
    subst e
    rw [sorted_eq h1.2 h2.2 ((List.perm_cons a).mp p)]
theorem sortP_congr {l m : PL} (p : l.Perm m) : DL.sortP l = DL.sortP m :=
  sorted_eq (sortP_pw l) (sortP_pw m) (((List.mergeSort_perm l _).trans p).trans (List.mergeSort_perm m _).symm)
theorem Rep.perm_keys {kv : PL} {R : RF} (h : Rep kv R) : kv.Perm ((keysR R).map fun k => (k, (R k).getD 0)) := by
  have e : rowsF R 0 100 = (keysR R).map fun k => (k, (R k).getD 0) := by
    rw [rowsF_eq]
    congr 1
    refine List.filter_eq_self.mpr fun k hk => ?_
    have := keysR_rg k hk
    simp; omega
  rw [← e, ← h.sortP]
  exact (List.mergeSort_perm _ _).symm
theorem Rep.age {kv : PL} {R : RF} (h : Rep kv R) : DL.sortP (kv.map fun p => (p.2, p.1)) = ageL R := by
  unfold ageL
  refine sortP_congr ?_
  have := h.perm_keys.map fun p : Int × Int => (p.2, p.1)
  rw [List.map_map] at this
  exact this
theorem ageL_len (R : RF) : (ageL R).length = (keysR R).length := by unfold ageL; rw [(sortP_perm _).length_eq, List.length_map]
theorem ageL_mem {R : RF} {p : Int × Int} : p ∈ ageL R ↔ (0 ≤ p.2 ∧ p.2 < 100) ∧ R p.2 = some p.1 := by
  unfold ageL
  rw [(sortP_perm _).mem_iff, List.mem_map]
  constructor
  · rintro ⟨k, hk, rfl⟩
    have hk := keysR_mem'.mp hk
    refine ⟨hk.1, ?_⟩
    cases e : R k with
    | none => exact absurd e hk.2
    | some t => rfl
  · rintro ⟨h1, h2⟩
    exact ⟨p.2, keysR_mem'.mpr ⟨h1, by rw [h2]; simp⟩, by rw [h2]; rfl⟩
theorem ageL_nd (R : RF) : ((ageL R).map (·.2)).Nodup := by
  unfold ageL
  refine ((sortP_perm _).map _).nodup_iff.mpr ?_
  rw [List.map_map]
  show ((keysR R).map fun k => k).Nodup
  rw [List.map_id']
  exact (((rgI_pw 0 100).filter _).imp fun h => by omega)
theorem cut_toI {α : Type} (xs : List α) {i : Int} (h0 : 0 ≤ i) : cutL xs none (some i) = xs.take i.toNat := by
  obtain ⟨n, rfl⟩ := Int.eq_ofNat_of_zero_le h0
  show cutL xs none (some (n : Int)) = xs.take n
  exact cut_to' xs
theorem shrink_ok (g38 : G.fn 38 = some ⟨1, 4, IR.Keeper_shrink⟩) (h : Kp A q s w) (k : ∀ B, Kp B q s w.shrink → Fr [q.kt, q.kr] A B → Q .non B) : callN G (n + 1) 38 [.ref q.k] A Q E := by
  obtain ⟨kt, f1, r1⟩ := h.st
  refine callN_mk g38 rfl ?_
  unfold IR.Keeper_shrink
  walk_at "wpx"
  rw [wq_lk]
  refine ⟨q.kt, dkI kt, f1, fun u => ?_⟩
  have o1 : up A q.kt (.dkl (dkI kt) u) q.k = some (kpO q s w) := by rw [up_ne h.n1]; exact h.o
  have hkl := r1.len
  walk_at "wpx"
  rw [x_fld o1 rfl, x_keys up_same, dk_keys]
  refine ⟨DL.size_ok (by simp; omega), ?_⟩
  rw [List.map_map]
  refine comp_of (fun p : Int × Int => D.int p.1) (fun p => prD (p.2, p.1)) up_same (fun z hz R1 hr => ?_) ?_
  · rw [g_nm]
    walk_at "wpx"
    rw [x_fld o1 rfl]
    walk_at "wpx"
    refine x_ixD r1 ((r1.val z.1 z.2).mp hz) (.inl ⟨q.kt, rfl, .inr ⟨u, up_same⟩⟩) ?_
    exact hr
  intro p np
  have npA : A p = none := by
    have : p ≠ q.kt := fun e => by subst e; rw [up_same] at np; cases np
    rw [up_ne this] at np; exact np
  have hpk : q.kt ≠ p := ne_free f1 npA
  refine ⟨by rw [up_ne hpk]; exact up_same, ?_⟩
  rw [up_comm hpk.symm, up_up, up_id f1, fz_new npA]
  rw [show kt.map (fun p => prD (p.2, p.1)) = (kt.map fun p => (p.2, p.1)).map prD by rw [List.map_map]; rfl]
  rw [sort_prs (ps := kt.map fun p => (p.2, p.1)) seq_fl, r1.age]
  have hal := ageL_len w.st
  have hkl2 := keysR_len w.st
  walk_at "wgo"
  rw [x_fld h.o rfl]
  walk_at "wgo"
  rw [List.length_map, cut_toI _ (by split <;> omega), ← List.map_take]
  have eN : (if ((ageL w.st).length : Int) - w.room > 0 then ((ageL w.st).length : Int) - w.room else 0).toNat = ((ageL w.st).length - w.room).toNat := by split <;> omega
  rw [eN]
  have hnd := ageL_nd w.st
  have hmem : ∀ p ∈ (ageL w.st).take ((ageL w.st).length - w.room).toNat, w.st p.2 = some p.1 := fun p hp => (ageL_mem.mp (List.mem_of_mem_take hp)).2
  have hnd2 : (((ageL w.st).take ((ageL w.st).length - w.room).toNat).map (·.2)).Nodup := by
    rw [List.map_take]; exact List.Nodup.sublist (List.take_sublist _ _) hnd
  have ho : w.shrink = w.less (((ageL w.st).take ((ageL w.st).length - w.room).toNat).map (·.2)) := rfl
  rw [ho] at k
  generalize (ageL w.st).take ((ageL w.st).length - w.room).toNat = L at hmem hnd2 k
  generalize hd1 : D.fl (List.map prD (ageL w.st)) = d1
  refine for_inv (fun j δ B => ∃ d2 d3, δ = [some (.ref q.k), some d1, d2, d3] ∧ Kp B q s (w.less ((L.take j).map (·.2))) ∧ Fr [q.kt, q.kr] A B) _ 0 (fun i z δ B M hi hI hM => ?_) ⟨none, none, rfl, by rw [List.take_zero, List.map_nil, less_nil']; exact h, Fr.refl⟩ ?_
  · obtain ⟨d2, d3, rfl, hB, f⟩ := hI
    obtain ⟨c, hc, rfl⟩ := List.getElem?_map ▸ hi |> Option.map_eq_some_iff.mp
    rw [Nat.zero_add] at hB hM
    refine ⟨True.intro, ?_⟩
    rw [show prD c = .tup [.int c.1, .int c.2] from rfl]
    unfold IR.Keeper_shrink_b1
    simp only [g_tp, g_cons, g_nil, g_nm, seq_tup, List.set_cons_zero, List.set_cons_succ, true_and]
    have e1 : L.take (i + 1) = L.take i ++ [c] := by rw [List.take_add_one, hc]; rfl
    have hno : c.2 ∉ (L.take i).map (·.2) := fun hm => by
      have := List.Nodup.sublist ((List.take_sublist (i + 1) L).map (·.2)) hnd2
      rw [e1, List.map_append, List.nodup_append] at this
      exact this.2.2 c.2 hm c.2 (by simp) rfl
    refine pop_one hB (key := c.2) (t := c.1) (show lessF w.st ((L.take i).map (·.2)) c.2 = some c.1 by unfold lessF; rw [if_neg hno]; exact hmem c (List.mem_of_getElem? hc)) (fun A Q E => rfl) (fun A Q E => rfl) fun C hC f2 => ?_
    refine hM _ _ ⟨_, _, rfl, ?_, f.trans f2⟩
    rw [less_less] at hC
    rw [e1, List.map_append]; exact hC
  · rintro δ B ⟨d2, d3, rfl, hB, f⟩
    rw [Nat.zero_add, List.length_map, List.take_length] at hB
    refine ⟨True.intro, ?_⟩
    walk_at "wgo"
    exact ret_here (k B hB f)
end
end DP

set_option Elab.async false
set_option linter.all false
set_option maxRecDepth 100000
/-! keepers: asked -/
namespace DP
open DL PySem
open L2 hiding prD
def mixF (f : Int → Bool) (T R : RF) : RF := fun k => if f k = true then T k else R k
theorem mix_no {T R : RF} : mixF (hasD []) T R = R := by funext k; unfold mixF; rw [if_neg (by simp [hasD])]
theorem mix_snoc {l : PL} {p : Int × Int} {T R : RF} : inF p.1 p.2 T (mixF (hasD l) T R) = mixF (hasD (l ++ [p])) T R := by
  funext k
  unfold inF mixF
  rw [hasD_app, hasD_cons, show hasD [] k = false from rfl, Bool.or_false]
  by_cases c : p.1 ≤ k ∧ k < p.2
  · rw [if_pos c, if_pos (by simp [c.1, c.2])]
  · rw [if_neg c]
    have : (decide (p.1 ≤ k) && decide (k < p.2)) = false := by
      rw [← Bool.not_eq_true, Bool.and_eq_true, decide_eq_true_eq, decide_eq_true_eq]; exact c
    rw [this, Bool.or_false]
theorem ofL_rowsF {R : RF} {x y : Int} (h : ∀ k w, R k = some w → 0 ≤ k ∧ k < 100) (k : Int) (h1 : x ≤ k) (h2 : k < y) : ofL (rowsF R x y) k = R k := by
  have r : Rep (rowsF R x y) (fun k => if x ≤ k ∧ k < y then R k else none) := by
    refine ⟨?_, fun k v => ?_, fun p hp => (mem_rowsF.mp hp).1⟩
    · rw [List.Nodup, List.pairwise_map]
      exact (rowsF_pw R x y).imp fun h => by omega
    · rw [mem_rowsF]
      constructor
      · rintro ⟨_, h2, h3, h4⟩; rw [if_pos ⟨h2, h3⟩]; exact h4
      · intro e
        split at e
        · next c => exact ⟨h k v e, c.1, c.2, e⟩
        · cases e
  rw [r.ofL]
  exact if_pos ⟨h1, h2⟩
theorem inF_congr {x y : Int} {T S R : RF} (h : ∀ k, x ≤ k → k < y → T k = S k) : inF x y T R = inF x y S R := by
  funext k; unfold inF
  split
  · next c => exact h k c.1 c.2
  · rfl
theorem Src.rgn {A : AH} {a : SA} {v : SV} (h : Src A a v) : ∀ k w, v.now k = some w → 0 ≤ k ∧ k < 100 := fun k w e => by
  obtain ⟨kvs, _, r⟩ := h.st
  obtain ⟨kw, _, r2⟩ := put_last r (by have := h.len; omega)
  exact r2.rgR e
/-- a source asked so much -/
def SV.asks (v : SV) (l : PL) : SV := l.foldl (fun v p => v.ask p.1 p.2) v
theorem asks_cs : ∀ (l : PL) (v : SV), (v.asks l).cs = v.cs ∧ (v.asks l).Rs = v.Rs
  | [], v => ⟨rfl, rfl⟩
  | p :: l, v => asks_cs l (v.ask p.1 p.2)
theorem asks_now (l : PL) (v : SV) : (v.asks l).now = v.now := by unfold SV.now; rw [(asks_cs l v).2]
theorem asks_at (l : PL) (v : SV) (c : Int) : (v.asks l).at c = v.at c := by unfold SV.at; rw [(asks_cs l v).2]
theorem asks_snoc (v : SV) (l : PL) (p : Int × Int) : v.asks (l ++ [p]) = (v.asks l).ask p.1 p.2 := by unfold SV.asks; rw [List.foldl_append]; rfl
theorem Hist.asks {v : SV} (h : Hist v) : ∀ l : PL, Hist (v.asks l)
  | l => by
    obtain ⟨e1, e2⟩ := asks_cs l v
    refine ⟨by rw [e1, e2]; exact h.len, by rw [e1]; exact h.rg, fun i k hi hk => ?_⟩
    rw [asks_at, asks_at]
    rw [e1] at hi hk
    exact h.st i k hi hk
def KV.go (w : KV) (v : SV) (l : PL) (x y : Int) : KV := { w with turn := w.turn + 1, st := inF x y (fun _ => some (w.turn + 1)) (mixF (hasD l) (fun _ => some (w.turn + 1)) w.st), rw := mixF (hasD l) v.now w.rw }
/-- what a keeper asks for -/
def KV.plan (w : KV) (x y : Int) : PL := asksL (tn (kn w) x y) w.cost
theorem plan_okF (w : KV) (x y : Int) : okF 0 (w.plan x y) := asks_okF (tn_ok _ _ _) _
section
variable {G : Gm} {n : Nat} {A : AH} {q : KA} {w : KV} {Q : QE} {E : XQ} {x y : Int} {a : SA} {v : SV}
theorem takes_loop (g : KpG G) {c : CallT} (hc : c = callN G (n + 6)) (na : [a.s, a.st, a.ch, q.k, q.kt, q.kr].Nodup) {l : PL} (hl : okF 0 l) (h : Kp A q a.s w) (hs : Src A a v) {P : Pst} {d1 d2 d3 d4 d5 d6 : Option D} (k : ∀ d3 d4 B, Kp B q a.s { w with st := mixF (hasD l) (fun _ => some w.turn) w.st, rw := mixF (hasD l) v.now w.rw } → Src B a (v.asks l) → Fr [a.s, q.kt, q.kr] A B → P.nx [some (.ref q.k), d1, d2, d3, d4, d5, d6] B) : dFor (.tp [.nm 3, .nm 4]) (fun _ => True) (wpSs c G IR.Keeper_ask_b1) (prs l) P [some (.ref q.k), d1, d2, d3, d4, d5, d6] A := by
  subst hc
  refine for_inv (fun j δ B => ∃ d3 d4, δ = [some (.ref q.k), d1, d2, d3, d4, d5, d6] ∧ Kp B q a.s { w with st := mixF (hasD (l.take j)) (fun _ => some w.turn) w.st, rw := mixF (hasD (l.take j)) v.now w.rw } ∧ Src B a (v.asks (l.take j)) ∧ Fr [a.s, q.kt, q.kr] A B) _ 0 (fun i z δ B M hi hI hM => ?_) ⟨d3, d4, rfl, by rw [List.take_zero, mix_no, mix_no]; exact h, hs, Fr.refl⟩ ?_
  · obtain ⟨d3, d4, rfl, hB, hsB, f⟩ := hI
    obtain ⟨p, hp, rfl⟩ := List.getElem?_map ▸ hi |> Option.map_eq_some_iff.mp
    have hst : okSt p := okF_st hl (Int.le_refl _) p (List.mem_of_getElem? hp)
    have p0 : 0 ≤ p.1 := hst.1
    have p1 : p.1 < p.2 := hst.2.1
    have p2 : p.2 ≤ 100 := hst.2.2
    rw [Nat.zero_add] at hB hsB hM
    refine ⟨True.intro, ?_⟩
    rw [show prD p = .tup [.int p.1, .int p.2] from rfl]
    unfold IR.Keeper_ask_b1
    walk_at "wpx"
    rw [x_meth g.m21 hB.o]
    walk_at "wpx"
    rw [x_fld hB.o rfl, x_meth g.m2s hsB.o]
    walk_at "wpx"
    refine ask_ok g.l g.g24 g.m11 g.g26 hsB fun C hC f2 => ?_
    have hBC := hB.frN na f2 3 [0] rfl rfl rfl rfl (by decide) (by decide) (by decide)
    refine take_ok g.g37 hBC p0 p2 (by omega) (by omega) (fun z hz => (mem_rowsF.mp hz).1) fun D1 hD f3 => ?_
    have hCD := hC.frN na f3 0 [4, 5] rfl rfl rfl rfl (by decide) (by decide) (by decide)
    walk_at "wgo"
    refine hM _ _ ⟨_, _, rfl, ?_, ?_, (f.trans (f2.mono (by simp))).trans (f3.mono (by simp))⟩
    · have e1 : l.take (i + 1) = l.take i ++ [p] := by rw [List.take_add_one, hp]; rfl
      rw [e1, ← mix_snoc, ← mix_snoc]
      have e2 : inF p.1 p.2 v.now (mixF (hasD (l.take i)) v.now w.rw) = inF p.1 p.2 (ofL (rowsF (v.asks (l.take i)).now p.1 p.2)) (mixF (hasD (l.take i)) v.now w.rw) := inF_congr fun k k1 k2 => by
        rw [ofL_rowsF (by rw [asks_now]; exact hs.rgn) k k1 k2, asks_now]
      rw [e2]
      exact hD
    · rw [show l.take (i + 1) = l.take i ++ [p] by rw [List.take_add_one, hp]; rfl, asks_snoc]
      exact hCD
  · rintro δ B ⟨d3, d4, rfl, hB, hsB, f⟩
    rw [Nat.zero_add, List.length_map, List.take_length] at hB hsB
    exact ⟨True.intro, k _ _ B hB hsB f⟩
theorem stamps_loop {c : CallT} {f2 : Nat} (na : [a.s, a.st, a.ch, q.k, q.kt, q.kr].Nodup) (h0 : 0 ≤ x) (h1 : y ≤ 100) (h : Kp A q a.s w) {P : Pst} {d1 d2 d3 d4 d5 d6 : Option D} (k : ∀ d5 B, Kp B q a.s { w with st := inF x y (fun _ => some w.turn) w.st } → Fr [q.kt] A B → P.nx [some (.ref q.k), d1, d2, d3, d4, d5, d6] B) : dFor (.nm 5) (fun _ => True) (wpSs c G IR.Keeper_ask_b2) (rgD x y) P [some (.ref q.k), d1, d2, d3, d4, d5, d6] A := by
  refine for_inv (fun j δ B => ∃ d5, δ = [some (.ref q.k), d1, d2, d3, d4, d5, d6] ∧ Kp B q a.s { w with st := inF x (x + j) (fun _ => some w.turn) w.st } ∧ Fr [q.kt] A B) _ 0 (fun i z δ B M hi hI hM => ?_) ⟨d5, rfl, by rw [inF_no (by omega)]; exact h, Fr.refl⟩ ?_
  · obtain ⟨d5, rfl, hB, f⟩ := hI
    rw [Nat.zero_add] at hB hM
    rw [rgD_eq] at hi
    obtain ⟨m, hm, rfl⟩ := List.getElem?_map ▸ hi |> Option.map_eq_some_iff.mp
    have hm1 := rgI_get hm
    have hm2 := mem_rgI.mp (List.mem_of_getElem? hm)
    have em : m = x + i := by omega
    obtain ⟨kt, f1, s1⟩ := hB.st
    obtain ⟨kr, f2, s2⟩ := hB.rw
    have lt := s1.len
    refine ⟨True.intro, ?_⟩
    unfold IR.Keeper_ask_b2
    walk_at "wpx"
    rw [x_fld hB.o rfl, x_fld hB.o rfl]
    refine x_subD f1 (by omega) ?_
    have s4 := s1.put (k := m) w.turn (by omega) (by omega)
    walk_at "wgo"
    refine hM _ _ ⟨_, rfl, ?_, f.trans (Fr.refl.up (by simp))⟩
    have ei : x + ((i + 1 : Nat) : Int) = x + i + 1 := by omega
    rw [ei]
    have es : inF x (x + i + 1) (fun _ => some w.turn) w.st = updF (inF x (x + i) (fun _ => some w.turn) w.st) m (some w.turn) := by
      rw [em]; exact (inF_snoc (T := fun _ => some w.turn) (R := w.st) (by omega)).symm
    refine hB.set (by rw [up_ne hB.n1]; exact hB.o) up_same (by rw [up_ne hB.n3.symm]; exact f2) (by rw [show ({ w with st := inF x (x + i + 1) (fun _ => some w.turn) w.st } : KV).st = _ from es]; exact s4) s2 fun j hj => ?_
    have hj : inF x (x + i + 1) (fun _ => some w.turn) w.st j = none := hj
    unfold inF at hj
    split at hj
    · cases hj
    · exact h.sub j hj
  · rintro δ B ⟨d5, rfl, hB, f⟩
    rw [Nat.zero_add, rgD_len] at hB
    refine ⟨True.intro, k _ B ?_ f⟩
    by_cases c : x ≤ y
    · rw [show x + ((y - x).toNat : Int) = y by omega] at hB; exact hB
    · rw [inF_no (by omega)] at hB ⊢; exact hB
theorem kask_ok (g : KpG G) (h : Kp A q a.s w) (hs : Src A a v) (hr : ∀ k ∈ v.cs, 0 ≤ k ∧ k < 100) (hh0 : 0 ≤ w.heard) (hh1 : w.heard ≤ v.cs.length) (na : [a.s, a.st, a.ch, q.k, q.kt, q.kr].Nodup) (h0 : 0 ≤ x) (h1 : y ≤ 100) (hx : x ≤ 1000) (hy : -1000 ≤ y)
    (k : ∀ B, Kp B q a.s ((w.hear v).go v ((w.hear v).plan x y) x y).shrink → Src B a (v.asks ((w.hear v).plan x y)) → Fr [a.s, q.k, q.kt, q.kr] A B → Q (spd (rowsF ((w.hear v).go v ((w.hear v).plan x y) x y).rw x y)) B) : callN G (n + 7) 42 [.ref q.k, .int x, .int y] A Q E := by
  refine callN_mk g.g42 rfl ?_
  unfold IR.Keeper_ask
  walk_at "wpx"
  rw [x_meth g.m9 h.o]
  walk_at "wpx"
  refine hear_ok g h hs hr hh0 hh1 na fun B hB f1 => ?_
  have hsB : Src B a v := hs.frN na f1 0 [3, 4, 5] rfl rfl rfl rfl (by decide) (by decide) (by decide)
  refine later_go ?_
  walk_at "wpx"
  rw [x_fld hB.o rfl]
  walk_at "wpx"
  rw [x_put hB.o (by simp)]
  have hC : Kp (up B q.k (.ins 2 (putF' [.ref a.s, .int (w.hear v).room, .int (w.hear v).cost, .int (w.hear v).heard, .int (w.hear v).turn, .ref q.kt, .ref q.kr] 4 (.int ((w.hear v).turn + 1))))) q a.s { w.hear v with turn := (w.hear v).turn + 1 } := by
    obtain ⟨kt, e1, r1⟩ := hB.st
    obtain ⟨kr, e2, r2⟩ := hB.rw
    exact hB.set up_same (by rw [up_ne h.n1.symm]; exact e1) (by rw [up_ne h.n2.symm]; exact e2) r1 r2 hB.sub
  have f2 : Fr [q.k] B (up B q.k (.ins 2 (putF' [.ref a.s, .int (w.hear v).room, .int (w.hear v).cost, .int (w.hear v).heard, .int (w.hear v).turn, .ref q.kt, .ref q.kr] 4 (.int ((w.hear v).turn + 1))))) := Fr.refl.up (by simp)
  generalize up B q.k (.ins 2 (putF' [.ref a.s, .int (w.hear v).room, .int (w.hear v).cost, .int (w.hear v).heard, .int (w.hear v).turn, .ref q.kt, .ref q.kr] 4 (.int ((w.hear v).turn + 1)))) = C at hC f2 ⊢
  have hsC : Src C a v := hsB.frN na f2 0 [3] rfl rfl rfl rfl (by decide) (by decide) (by decide)
  refine later_go ?_
  walk_at "wpx"
  rw [x_meth g.m16 hC.o]
  walk_at "wpx"
  refine plan_ok g hC h0 h1 ?_
  rw [show asksL (tn (kn { w.hear v with turn := (w.hear v).turn + 1 }) x y) ({ w.hear v with turn := (w.hear v).turn + 1 } : KV).cost = (w.hear v).plan x y from rfl]
  walk_at "wpx"
  refine takes_loop (n := n) g rfl na (plan_okF _ _ _) hC hsC fun d3 d4 D1 hD hsD f3 => ?_
  refine later_go ?_
  walk_at "wpx"
  refine ⟨by omega, ?_⟩
  refine stamps_loop (f2 := 0) na h0 h1 hD fun d5 E1 hE f4 => ?_
  have hsE : Src E1 a (v.asks ((w.hear v).plan x y)) := hsD.frN na f4 0 [4] rfl rfl rfl rfl (by decide) (by decide) (by decide)
  refine later_go ?_
  walk_at "wpx"
  rw [x_meth g.m22 hE.o]
  walk_at "wpx"
  refine ktold_ok g.g39 hE ?_
  walk_at "wgo"
  rw [x_meth g.m19 hE.o]
  walk_at "wpx"
  refine shrink_ok g.g38 hE fun F1 hF f5 => ?_
  have hsF : Src F1 a (v.asks ((w.hear v).plan x y)) := hsE.frN na f5 0 [4, 5] rfl rfl rfl rfl (by decide) (by decide) (by decide)
  walk_at "wgo"
  exact ret_here (k F1 hF hsF (((((f1.mono (by simp)).trans (f2.mono (by simp))).trans (f3.mono (by simp))).trans (f4.mono (by simp))).trans (f5.mono (by simp))))
def KV.new (room cost heard : Int) : KV := ⟨room, cost, heard, 0, noF, noF⟩
theorem k_init (g33 : G.fn 33 = some ⟨4, 4, IR.Keeper___init__⟩) (g22 : G.fn 22 = some ⟨1, 1, IR.Source_clock⟩) (m5 : Mt G 1 5 22) {p : Addr} {room cost : Int} (hp : A p = none) (hs : Src A a v) (k : ∀ (q : KA) B, q.k = p → A q.kt = none → A q.kr = none → Kp B q a.s (KV.new room cost v.cs.length) → Fr [q.k, q.kt, q.kr] A B → Q .non B) : callN G (n + 2) 33 [.ref p, .ref a.s, .int room, .int cost] (up A p (.ins 2 [])) Q E := by
  have ns : a.s ≠ p := ne_free hs.o hp
  have nst : a.st ≠ p := by obtain ⟨z, e, _⟩ := hs.st; exact ne_free e hp
  have nch : a.ch ≠ p := ne_free hs.ch hp
  refine callN_mk g33 rfl ?_
  unfold IR.Keeper___init__
  walk_at "wpx"
  rw [x_put (show up A p (.ins 2 []) p = some (.ins 2 []) from up_same) (by simp), up_up]
  refine later_go ?_
  walk_at "wpx"
  rw [x_put (show up A p _ p = some (.ins 2 _) from up_same) (by simp [putF']), up_up]
  refine later_go ?_
  walk_at "wpx"
  rw [x_put (show up A p _ p = some (.ins 2 _) from up_same) (by simp [putF']), up_up]
  refine later_go ?_
  walk_at "wpx"
  have hs1 : ∀ o, Src (up A p o) a v := fun o => hs.fr (L := [p]) (Fr.refl.up (by simp)) (by simp [ns]) (by simp [nst]) (by simp [nch])
  rw [x_meth m5 (hs1 _).o]
  walk_at "wpx"
  refine clock_ok g22 (hs1 _) ?_
  rw [x_put (show up A p _ p = some (.ins 2 _) from up_same) (by simp [putF']), up_up]
  refine later_go ?_
  walk_at "wpx"
  rw [x_put (show up A p _ p = some (.ins 2 _) from up_same) (by simp [putF']), up_up]
  refine later_go ?_
  walk_at "wpx"
  refine wq_dic0 fun t nt => ?_
  have ntp : p ≠ t := fun e => by subst e; rw [up_same] at nt; cases nt
  have ntA : A t = none := by rw [up_ne (Ne.symm ntp)] at nt; exact nt
  rw [x_put (show up (up A p _) t _ p = some (.ins 2 _) by rw [up_ne ntp, up_same]) (by simp [putF'])]
  refine later_go ?_
  walk_at "wpx"
  refine wq_dic0 fun r nr => ?_
  have nrp : p ≠ r := fun e => by subst e; rw [up_same] at nr; cases nr
  have nrt : t ≠ r := fun e => by subst e; rw [up_ne (Ne.symm ntp), up_same] at nr; cases nr
  have nrA : A r = none := by rw [up_ne (Ne.symm nrp), up_ne (Ne.symm nrt), up_ne (Ne.symm nrp)] at nr; exact nr
  rw [x_put (show up (up _ p _) r _ p = some (.ins 2 _) by rw [up_ne nrp, up_same]) (by simp [putF'])]
  refine later_go ?_
  walk_at "wpx"
  refine ret_here (k ⟨p, t, r⟩ _ rfl ntA nrA ⟨up_same, ⟨[], ?_, Rep.nil⟩, ⟨[], ?_, Rep.nil⟩, fun _ _ => rfl, ntp, nrp, nrt⟩ ?_)
  · rw [up_ne (Ne.symm ntp), up_ne nrt, up_ne (Ne.symm ntp), up_same]; rfl
  · rw [up_ne (Ne.symm nrp), up_same]; rfl
  · exact (((((Fr.refl.up (by simp)).up (by simp)).up (by simp)).up (by simp)).up (by simp))
end
end DP

set_option Elab.async false
set_option linter.all false
set_option maxRecDepth 100000
/-! keepers: what holds of what they keep -/
namespace DP
open DL PySem
open L2 hiding prD
theorem gp_hull {cost : Int} : ∀ {r : PL} {e k lo : Int}, okF lo r → gp cost e r k → e ≤ lo → e ≤ k ∧ ∃ j, hasD r j = true ∧ k < j
  | [], _, _, _, _, g, _ => g.elim
  | p :: r, e, k, lo, ⟨a, b, c, d⟩, g, h => by
    rcases g with g | g
    · exact ⟨g.1, p.1, by rw [hasD_cons]; simp [b], g.2.1⟩
    · obtain ⟨h1, j, h2, h3⟩ := gp_hull d g (by omega)
      exact ⟨by omega, j, by rw [hasD_cons, h2, Bool.or_true], h3⟩
/-- asks lie between the keys that they are for -/
theorem asks_hull {l : PL} (hl : okF 0 l) {cost k : Int} (h : hasD (asksL l cost) k = true) : ∃ i j, hasD l i = true ∧ hasD l j = true ∧ i ≤ k ∧ k ≤ j := by
  cases l with
  | nil => cases h
  | cons c r =>
    obtain ⟨a, b, d, e⟩ := hl
    rw [asksL_cons] at h
    rcases ((akR_ok cost r c 0 a b d e).2 k).mp h with h | h
    · exact ⟨k, k, h, h, Int.le_refl _, Int.le_refl _⟩
    · obtain ⟨h1, j, h2, h3⟩ := gp_hull e h (by omega)
      exact ⟨c.1, j, by rw [hasD_cons]; simp [b], by rw [hasD_cons, h2, Bool.or_true], by omega, by omega⟩
theorem asks_in {l : PL} (hl : okF 0 l) {cost x y k : Int} (hin : ∀ j, hasD l j = true → x ≤ j ∧ j < y) (h : hasD (asksL l cost) k = true) : x ≤ k ∧ k < y := by
  obtain ⟨i, j, h1, h2, h3, h4⟩ := asks_hull hl h
  have := hin i h1
  have := hin j h2
  omega
theorem plan_in {w : KV} {x y k : Int} (h0 : 0 ≤ x) (h1 : y ≤ 100) (h : hasD (w.plan x y) k = true) : x ≤ k ∧ k < y := by
  refine asks_in (tn_ok _ _ _) (fun j hj => ?_) h
  rw [tn_has h0 h1, Bool.and_eq_true, Bool.and_eq_true, decide_eq_true_eq, decide_eq_true_eq] at hj
  exact hj.1
theorem plan_lack {w : KV} {x y k : Int} (h0 : 0 ≤ x) (h1 : y ≤ 100) (hx : x ≤ k) (hy : k < y) (h : w.st k = none) : hasD (w.plan x y) k = true := by
  refine asks_sub (tn_ok _ _ _) _ ?_
  rw [tn_has h0 h1, decide_eq_true hx, decide_eq_true hy, kn_has' w (by omega) (by omega), h]; rfl
/-- what a keeper knows is right, as of when it was heard -/
structure KOK (w : KV) (v : SV) : Prop where
  h0 : 0 ≤ w.heard
  h1 : w.heard ≤ v.cs.length
  rg : ∀ k, w.st k ≠ none → 0 ≤ k ∧ k < 100
  sub : ∀ k, w.st k = none → w.rw k = none
  ok : ∀ k, w.st k ≠ none → w.rw k = v.at w.heard k
  tn : ∀ k t, w.st k = some t → t ≤ w.turn
theorem KOK.new {v : SV} (room cost : Int) : KOK (KV.new room cost v.cs.length) v :=
  ⟨Int.natCast_nonneg _, Int.le_refl _, fun k h => absurd rfl h, fun _ _ => rfl, fun k h => absurd rfl h, fun k t h => by cases h⟩
theorem KOK.put {w : KV} {v : SV} (h : KOK w v) (hh : Hist v) (key : Int) (o : Option Int) : KOK w (v.put key o) := by
  have hl : (v.put key o).cs.length = v.cs.length + 1 := by show (v.cs ++ [key]).length = _; rw [List.length_append]; rfl
  exact ⟨h.h0, by have := h.h1; omega, h.rg, h.sub, fun k hk => by rw [at_put hh.len _ _ h.h0 h.h1]; exact h.ok k hk, h.tn⟩
theorem KOK.asks {w : KV} {v : SV} (h : KOK w v) (l : PL) : KOK w (v.asks l) :=
  ⟨h.h0, by rw [(asks_cs l v).1]; exact h.h1, h.rg, h.sub, fun k hk => by rw [asks_at]; exact h.ok k hk, h.tn⟩
theorem KOK.ask {w : KV} {v : SV} (h : KOK w v) (x y : Int) : KOK w (v.ask x y) := ⟨h.h0, h.h1, h.rg, h.sub, h.ok, h.tn⟩
theorem KOK.less {w : KV} {v : SV} (h : KOK w v) (ks : List Int) : KOK (w.less ks) v := by
  have e : ∀ k, (w.less ks).st k ≠ none → w.st k ≠ none ∧ k ∉ ks := fun k hk => by
    have hk : (if k ∈ ks then none else w.st k) ≠ none := hk
    split at hk
    · exact absurd rfl hk
    · next c => exact ⟨hk, c⟩
  refine ⟨h.h0, h.h1, fun k hk => h.rg k (e k hk).1, fun k hk => ?_, fun k hk => ?_, fun k t hk => ?_⟩
  · have hk : (if k ∈ ks then none else w.st k) = none := hk
    show (if k ∈ ks then none else w.rw k) = none
    split at hk
    · next c => rw [if_pos c]
    · next c => rw [if_neg c]; exact h.sub k hk
  · show (if k ∈ ks then none else w.rw k) = _
    rw [if_neg (e k hk).2]; exact h.ok k (e k hk).1
  · have hk : (if k ∈ ks then none else w.st k) = some t := hk
    split at hk
    · cases hk
    · exact h.tn k t hk
theorem KOK.shrink {w : KV} {v : SV} (h : KOK w v) : KOK w.shrink v := h.less _
theorem KOK.hear {w : KV} {v : SV} (h : KOK w v) (hh : Hist v) : KOK (w.hear v) v := by
  have e : ∀ k, (w.hear v).st k ≠ none → w.st k ≠ none ∧ k ∉ v.cs.drop w.heard.toNat := fun k hk => by
    have hk : (if k ∈ v.cs.drop w.heard.toNat then none else w.st k) ≠ none := hk
    split at hk
    · exact absurd rfl hk
    · next c => exact ⟨hk, c⟩
  refine ⟨Int.natCast_nonneg _, Int.le_refl _, fun k hk => h.rg k (e k hk).1, fun k hk => ?_, fun k hk => ?_, fun k t hk => ?_⟩
  · have hk : (if k ∈ v.cs.drop w.heard.toNat then none else w.st k) = none := hk
    show (if k ∈ v.cs.drop w.heard.toNat then none else w.rw k) = none
    split at hk
    · next c => rw [if_pos c]
    · next c => rw [if_neg c]; exact h.sub k hk
  · show (if k ∈ v.cs.drop w.heard.toNat then none else w.rw k) = _
    rw [if_neg (e k hk).2, h.ok k (e k hk).1]
    show _ = v.at v.cs.length k
    rw [← now_at hh.len]
    have h0 := h.h0
    have h1 := h.h1
    have := hh.since (v.cs.length - w.heard.toNat) w.heard.toNat (by omega) (e k hk).2
    rw [show ((w.heard.toNat : Nat) : Int) = w.heard by omega] at this
    exact this.symm
  · have hk : (if k ∈ v.cs.drop w.heard.toNat then none else w.st k) = some t := hk
    split at hk
    · cases hk
    · exact h.tn k t hk
theorem go_st {w : KV} {v : SV} {l : PL} {x y k : Int} (hin : ∀ j, hasD l j = true → x ≤ j ∧ j < y) : (w.go v l x y).st k = if x ≤ k ∧ k < y then some (w.turn + 1) else w.st k := by
  show inF x y (fun _ => some (w.turn + 1)) (mixF (hasD l) (fun _ => some (w.turn + 1)) w.st) k = _
  unfold inF mixF
  split
  · rfl
  · next c =>
    split
    · next c2 => exact absurd (hin k c2) c
    · rfl
theorem KOK.go {w : KV} {v : SV} (h : KOK w v) (hh : Hist v) (hv : w.heard = v.cs.length) {x y : Int} (h0 : 0 ≤ x) (h1 : y ≤ 100) : KOK (w.go v (w.plan x y) x y) v := by
  have hs : ∀ k, (w.go v (w.plan x y) x y).st k = if x ≤ k ∧ k < y then some (w.turn + 1) else w.st k := fun k => go_st fun j hj => plan_in h0 h1 hj
  have hr : ∀ k, (w.go v (w.plan x y) x y).rw k = if hasD (w.plan x y) k = true then v.now k else w.rw k := fun k => rfl
  have hat : v.at w.heard = v.now := by rw [hv, ← now_at hh.len]
  refine ⟨h.h0, h.h1, fun k hk => ?_, fun k hk => ?_, fun k hk => ?_, fun k t hk => ?_⟩
  · rw [hs] at hk
    split at hk
    · omega
    · exact h.rg k hk
  · rw [hs] at hk
    split at hk
    · cases hk
    · next c =>
      rw [hr]
      split
      · next c2 => exact absurd (plan_in h0 h1 c2) c
      · exact h.sub k hk
  · rw [hr]
    show _ = v.at w.heard k
    rw [hat]
    rw [hs] at hk
    split
    · rfl
    · next c2 =>
      split at hk
      · next c =>
        cases e : w.st k with
        | none => exact absurd (plan_lack h0 h1 c.1 c.2 e) c2
        | some t => rw [h.ok k (by rw [e]; simp), hat]
      · rw [h.ok k hk, hat]
  · rw [hs] at hk
    split at hk
    · injection hk with hk; show t ≤ w.turn + 1; omega
    · have := h.tn k t hk; show t ≤ w.turn + 1; omega
/-- what is told is what the source has -/
theorem KOK.rows {w : KV} {v : SV} (h : KOK w v) (hh : Hist v) (hv : w.heard = v.cs.length) {x y : Int} (hk : ∀ k, 0 ≤ k → k < 100 → x ≤ k → k < y → w.st k ≠ none) : rowsF w.rw x y = rowsF v.now x y := by
  refine rowsF_inj.mpr fun k k0 k1 k2 k3 => ?_
  rw [h.ok k (hk k k0 k1 k2 k3), hv, ← now_at hh.len]
theorem go_rows {w : KV} {v : SV} (h : KOK w v) (hh : Hist v) (hv : w.heard = v.cs.length) {x y : Int} (h0 : 0 ≤ x) (h1 : y ≤ 100) : rowsF (w.go v (w.plan x y) x y).rw x y = rowsF v.now x y := by
  refine (h.go hh hv h0 h1).rows hh hv fun k _ _ k2 k3 => ?_
  rw [go_st fun j hj => plan_in h0 h1 hj, if_pos ⟨k2, k3⟩]; simp
/-! how many are kept -/
end DP

set_option Elab.async false
set_option linter.all false
set_option maxRecDepth 100000
/-! a town, a source, its rows, and keepers of it -/
namespace DP
open DL PySem
open L2 hiding prD
structure WK (A : AH) (t : Addr) (k : Nat) (d : Addr) (a : SA) (v : SV) (kv : PL) (qs : List (KA × KV)) : Prop where
  w2 : W2 A t k d a v kv
  hh : Hist v
  kp : ∀ p ∈ qs, Kp A p.1 a.s p.2
  ok : ∀ p ∈ qs, KOK p.2 v
  out : ∀ p ∈ qs, ∀ x ∈ p.1.L, x ∉ [t, d, a.s, a.st, a.ch]
  sep : ∀ (i j : Nat) (p r : KA × KV), i ≠ j → qs[i]? = some p → qs[j]? = some r → ∀ x ∈ p.1.L, x ∉ r.1.L
theorem KA.k_mem (q : KA) : q.k ∈ q.L := List.mem_cons_self
theorem KA.kt_mem (q : KA) : q.kt ∈ q.L := List.mem_cons_of_mem _ List.mem_cons_self
theorem KA.kr_mem (q : KA) : q.kr ∈ q.L := List.mem_cons_of_mem _ (List.mem_cons_of_mem _ List.mem_cons_self)
theorem Kp.fr' {A B : AH} {q : KA} {s : Addr} {w : KV} {L : List Addr} (h : Kp A q s w) (f : Fr L A B) (hd : ∀ x ∈ q.L, x ∉ L) : Kp B q s w := h.fr f (hd _ q.k_mem) (hd _ q.kt_mem) (hd _ q.kr_mem)
def KV.asked (w : KV) (v : SV) (x y : Int) : KV := ((w.hear v).go v ((w.hear v).plan x y) x y).shrink
section
variable {G : Gm} {n : Nat} {A B : AH} {Q : QE} {E : XQ} {t d : Addr} {k k' : Nat} {a : SA} {v v' : SV} {kv kv' : PL} {qs : List (KA × KV)} {q : KA} {w : KV} {x y : Int} {i : Nat}
theorem WK.na (W : WK A t k d a v kv qs) (hi : (q, w) ∈ qs) : [a.s, a.st, a.ch, q.k, q.kt, q.kr].Nodup := by
  have h := W.kp _ hi
  have o := W.out _ hi
  have s := W.w2.src
  have n1 := s.n1; have n2 := s.n2; have n3 := s.n3
  have m1 := h.n1; have m2 := h.n2; have m3 := h.n3
  have o1 := o _ q.k_mem
  have o2 := o _ q.kt_mem
  have o3 := o _ q.kr_mem
  simp only [List.mem_cons, List.not_mem_nil, or_false, not_or] at o1 o2 o3
  simp only [List.nodup_cons, List.mem_cons, List.not_mem_nil, or_false, not_or, not_false_eq_true, List.nodup_nil, and_true]
  exact ⟨⟨n1, n2, Ne.symm o1.2.2.1, Ne.symm o2.2.2.1, Ne.symm o3.2.2.1⟩, ⟨n3, Ne.symm o1.2.2.2.1, Ne.symm o2.2.2.2.1, Ne.symm o3.2.2.2.1⟩, ⟨Ne.symm o1.2.2.2.2, Ne.symm o2.2.2.2.2, Ne.symm o3.2.2.2.2⟩, ⟨m1, m2⟩, m3⟩
theorem WK.draw (W : WK A t k d a v kv qs) : WK (up A t (tw k')) t k' d a v kv qs := by
  have hf : Fr [t] A (up A t (tw k')) := Fr.refl.up (by simp)
  refine ⟨W.w2.draw, W.hh, fun p hp => (W.kp p hp).fr' hf fun x hx => ?_, W.ok, W.out, W.sep⟩
  have := W.out p hp x hx
  simp only [List.mem_cons, List.not_mem_nil, or_false, not_or] at this ⊢
  exact this.1
theorem WK.change {key : Int} {o : Option Int} (W : WK A t k d a v kv qs) (w2 : W2 B t k' d a (v.put key o) kv') (h0 : 0 ≤ key) (h1 : key < 100) (f : Fr [t, d, a.s, a.st, a.ch] A B) : WK B t k' d a (v.put key o) kv' qs :=
  ⟨w2, W.hh.put o h0 h1, fun p hp => (W.kp p hp).fr' f (W.out p hp), fun p hp => (W.ok p hp).put W.hh key o, W.out, W.sep⟩
/-- something else was touched -/
theorem WK.fr {L : List Addr} (W : WK A t k d a v kv qs) (f : Fr L A B) (h : ∀ x ∈ [t, d, a.s, a.st, a.ch], x ∉ L) (h2 : ∀ p ∈ qs, ∀ x ∈ p.1.L, x ∉ L) : WK B t k d a v kv qs :=
  ⟨W.w2.fr f h, W.hh, fun p hp => (W.kp p hp).fr' f (h2 p hp), W.ok, W.out, W.sep⟩
theorem WK.live (W : WK A t k d a v kv qs) {p : Addr} (np : A p = none) : (∀ x ∈ [t, d, a.s, a.st, a.ch], x ≠ p) ∧ ∀ r ∈ qs, ∀ x ∈ r.1.L, x ≠ p :=
  ⟨W.w2.live np, fun r hr => (W.kp r hr).live np⟩
/-- a new cell beside -/
theorem WK.new {p : Addr} {o : AO} (W : WK A t k d a v kv qs) (np : A p = none) : WK (up A p o) t k d a v kv qs :=
  W.fr (L := [p]) (Fr.refl.up (by simp)) (fun x hx => by simp [(W.live np).1 x hx]) fun r hr x hx => by simp [(W.live np).2 r hr x hx]
/-- one keeper is changed, and what the source was asked -/
theorem WK.one (W : WK A t k d a v kv qs) (hi : qs[i]? = some (q, w)) {w' : KV} {l : PL} (hk : Kp B q a.s w') (hs : Src B a (v.asks l)) (ok : KOK w' (v.asks l)) (f : Fr [a.s, q.k, q.kt, q.kr] A B) : WK B t k d a (v.asks l) kv (qs.set i (q, w')) := by
  have hm : (q, w) ∈ qs := List.mem_of_getElem? hi
  have hil := (List.getElem?_eq_some_iff.mp hi).1
  have ho := W.out _ hm
  have na := W.na hm
  have ht : t ∉ [a.s, q.k, q.kt, q.kr] := by
    intro h
    rcases List.mem_cons.mp h with e | h
    · exact nd_ne W.w2.nd 0 2 (by decide) rfl rfl e
    · exact ho t h (by simp)
  have hd : d ∉ [a.s, q.k, q.kt, q.kr] := by
    intro h
    rcases List.mem_cons.mp h with e | h
    · exact nd_ne W.w2.nd 1 2 (by decide) rfl rfl e
    · exact ho d h (by simp)
  have hget : ∀ j r, (qs.set i (q, w'))[j]? = some r → (j = i ∧ r = (q, w')) ∨ (j ≠ i ∧ qs[j]? = some r) := fun j r hj => by
    rw [List.getElem?_set] at hj
    split at hj
    · next c =>
      first
        | (injection hj with hj; exact .inl ⟨c.symm, hj.symm⟩)
        | (rw [if_pos (by omega)] at hj; injection hj with hj; exact .inl ⟨c.symm, hj.symm⟩)
    · next c => exact .inr ⟨fun e => c e.symm, hj⟩
  refine ⟨⟨f.at ht W.w2.ht, hs, f.at hd W.w2.hd, by rw [asks_now]; exact W.w2.r, W.w2.nd⟩, W.hh.asks l, fun r hr => ?_, fun r hr => ?_, fun r hr => ?_, fun i1 j1 p r hij hp hr => ?_⟩
  · obtain ⟨j, hj⟩ := List.mem_iff_getElem?.mp hr
    rcases hget j r hj with ⟨rfl, rfl⟩ | ⟨hne, hj⟩
    · exact hk
    · refine (W.kp r (List.mem_of_getElem? hj)).fr' f fun x hx h => ?_
      rcases List.mem_cons.mp h with e | h
      · exact W.out r (List.mem_of_getElem? hj) x hx (by rw [e]; simp)
      · exact W.sep j i r (q, w) hne hj hi x hx h
  · obtain ⟨j, hj⟩ := List.mem_iff_getElem?.mp hr
    rcases hget j r hj with ⟨rfl, rfl⟩ | ⟨hne, hj⟩
    · exact ok
    · exact (W.ok r (List.mem_of_getElem? hj)).asks l
  · obtain ⟨j, hj⟩ := List.mem_iff_getElem?.mp hr
    rcases hget j r hj with ⟨rfl, rfl⟩ | ⟨hne, hj⟩
    · exact ho
    · exact W.out r (List.mem_of_getElem? hj)
  · rcases hget i1 p hp with ⟨e1, e2⟩ | ⟨hne, hp2⟩
    · rcases hget j1 r hr with ⟨e3, e4⟩ | ⟨hne2, hr2⟩
      · exact absurd (e1.trans e3.symm) hij
      · rw [e2]; exact W.sep i j1 (q, w) r (fun e => hij (e1.trans e)) hi hr2
    · rcases hget j1 r hr with ⟨e3, e4⟩ | ⟨hne2, hr2⟩
      · rw [e4]; exact W.sep i1 i p (q, w) hne hp2 hi
      · exact W.sep i1 j1 p r hij hp2 hr2
theorem WK.kask (g : KpG G) (W : WK A t k d a v kv qs) (hi : qs[i]? = some (q, w)) (hp : okSt (x, y)) (c : ∀ B, WK B t k d a (v.asks ((w.hear v).plan x y)) kv (qs.set i (q, w.asked v x y)) → Fr [a.s, q.k, q.kt, q.kr] A B → Q (spd (rowsF v.now x y)) B) : callN G (n + 7) 42 [.ref q.k, .int x, .int y] A Q E := by
  have hm : (q, w) ∈ qs := List.mem_of_getElem? hi
  have ok := W.ok _ hm
  have p0 : 0 ≤ x := hp.1
  have p1 : x < y := hp.2.1
  have p2 : y ≤ 100 := hp.2.2
  have okh := ok.hear W.hh
  refine kask_ok g (W.kp _ hm) W.w2.src W.hh.rg ok.h0 ok.h1 (W.na hm) p0 p2 (by omega) (by omega) fun B hB hs f => ?_
  rw [go_rows okh W.hh rfl p0 p2]
  exact c B (W.one hi hB hs ((okh.go W.hh rfl p0 p2).shrink.asks _) f) f
theorem WK.kp1 (W : WK A t k d a v kv qs) (hi : qs[i]? = some (q, w)) : Kp A q a.s w := W.kp _ (List.mem_of_getElem? hi)
theorem WK.ok1 (W : WK A t k d a v kv qs) (hi : qs[i]? = some (q, w)) : KOK w v := W.ok _ (List.mem_of_getElem? hi)
/-- a keeper is made -/
theorem WK.kmake (g33 : G.fn 33 = some ⟨4, 4, IR.Keeper___init__⟩) (g22 : G.fn 22 = some ⟨1, 1, IR.Source_clock⟩) (m5 : Mt G 1 5 22) (W : WK A t k d a v kv qs) {p : Addr} {room cost : Int} (hp : A p = none) (c : ∀ (q : KA) B, q.k = p → WK B t k d a v kv (qs ++ [(q, KV.new room cost v.cs.length)]) → Fr [q.k, q.kt, q.kr] A B → (∀ x ∈ q.L, A x = none) → Q .non B) : callN G (n + 2) 33 [.ref p, .ref a.s, .int room, .int cost] (up A p (.ins 2 [])) Q E := by
  refine k_init g33 g22 m5 hp W.w2.src fun q B e n2 n3 hB f => ?_
  have hno : ∀ x ∈ q.L, A x = none := fun x hx => by
    unfold KA.L at hx
    simp only [List.mem_cons, List.not_mem_nil, or_false] at hx
    rcases hx with rfl | rfl | rfl
    · rw [e]; exact hp
    · exact n2
    · exact n3
  refine c q B e ?_ f hno
  refine ⟨W.w2.fr f fun x hx h => (W.live (hno x h)).1 x hx rfl, W.hh, fun r hr => ?_, fun r hr => ?_, fun r hr => ?_, fun i j u r hij hu hr => ?_⟩
  · rcases List.mem_append.mp hr with hr | hr
    · exact (W.kp r hr).fr' f fun x hx h => (W.live (hno x h)).2 r hr x hx rfl
    · rw [List.mem_singleton.mp hr]; exact hB
  · rcases List.mem_append.mp hr with hr | hr
    · exact W.ok r hr
    · rw [List.mem_singleton.mp hr]; exact KOK.new _ _
  · rcases List.mem_append.mp hr with hr | hr
    · exact W.out r hr
    · rw [List.mem_singleton.mp hr]
      exact fun x hx h => (W.live (hno x hx)).1 x h rfl
  · have cases' : ∀ (j : Nat) (r : KA × KV), (qs ++ [(q, KV.new room cost v.cs.length)])[j]? = some r → (j < qs.length ∧ qs[j]? = some r) ∨ (j = qs.length ∧ r = (q, KV.new room cost v.cs.length)) := fun j r hj => by
      by_cases c : j < qs.length
      · rw [List.getElem?_append_left c] at hj; exact .inl ⟨c, hj⟩
      · rw [List.getElem?_append_right (by omega)] at hj
        have hl := (List.getElem?_eq_some_iff.mp hj).1
        rw [List.length_singleton] at hl
        have : j - qs.length = 0 := by omega
        rw [this] at hj
        injection hj with hj
        exact .inr ⟨by omega, hj.symm⟩
    rcases cases' i u hu with ⟨_, hu⟩ | ⟨h1, rfl⟩
    · rcases cases' j r hr with ⟨_, hr⟩ | ⟨_, rfl⟩
      · exact W.sep i j u r hij hu hr
      · exact fun x hx h => (W.live (hno x h)).2 u (List.mem_of_getElem? hu) x hx rfl
    · rcases cases' j r hr with ⟨_, hr⟩ | ⟨h2, rfl⟩
      · exact fun x hx h => (W.live (hno x hx)).2 r (List.mem_of_getElem? hr) x h rfl
      · exact absurd (h1.trans h2.symm) hij
theorem put_len {v : SV} {k : Int} {o : Option Int} : (v.put k o).cs.length = v.cs.length + 1 := by show (v.cs ++ [k]).length = _; rw [List.length_append]; rfl
/-- the world at the start: rows by cells, a source of them -/
theorem WK.start (g21 : G.fn 21 = some ⟨2, 2, IR.Source___init__⟩) {R : RF} {xa : Addr} (r : Rep kv R) (ht : A t = some (tw k)) (hd : A d = some (.dk (dkI kv))) (hne : t ≠ d) (nx : A xa = none) (c : ∀ (a : SA) B, a.s = xa → WK B t k d a (SV.new R) kv [] → Q .non B) : callN G (n + 1) 21 [.ref xa, .ptp (prs (rowsF R 0 100))] (up A xa (.ins 1 [])) Q E := by
  refine src_init g21 nx (fun p hp => (mem_rowsF.mp hp).1) fun a C ea nst nch hC hf => ?_
  rw [r.ofRows] at hC
  have nx : A a.s = none := by rw [ea]; exact nx
  have m1 : t ≠ a.s := ne_free ht nx
  have m2 : t ≠ a.st := ne_free ht nst
  have m3 : t ≠ a.ch := ne_free ht nch
  have l1 : d ≠ a.s := ne_free hd nx
  have l2 : d ≠ a.st := ne_free hd nst
  have l3 : d ≠ a.ch := ne_free hd nch
  refine c a C ea ⟨⟨hf.at (by simp [m1, m2, m3]) ht, hC, hf.at (by simp [l1, l2, l3]) hd, r, ?_⟩, Hist.new R, (fun p hp => by cases hp), (fun p hp => by cases hp), (fun p hp => by cases hp), fun i j p r _ hp => by cases hp⟩
  simp only [List.nodup_cons, List.mem_cons, List.not_mem_nil, or_false, not_or, not_false_eq_true, List.nodup_nil, and_true]
  exact ⟨⟨hne, m1, m2, m3⟩, ⟨l1, l2, l3⟩, ⟨hC.n1, hC.n2⟩, hC.n3⟩
end
/-! plain: spreads of what is known -/
end DP

set_option Elab.async false
set_option linter.all false
set_option maxRecDepth 100000
/-! keepers: pages -/
namespace DP
open DL PySem
open L2 hiding prD
/-- where the so-manieth ask of a page begins -/
def pgH (x : Int) (m : Nat) : Int := if x + 8 * m < 100 then x + 8 * m else 100
/-- keeper and source behind so many asks of a page -/
def pgS (w : KV) (v : SV) (x : Int) : Nat → KV × SV
  | 0 => (w, v)
  | m + 1 => ((pgS w v x m).1.asked (pgS w v x m).2 (pgH x m) (pgH x (m + 1)), (pgS w v x m).2.asks (((pgS w v x m).1.hear (pgS w v x m).2).plan (pgH x m) (pgH x (m + 1))))
theorem pgS_v (w : KV) (v : SV) (x : Int) : ∀ m, (pgS w v x m).2.now = v.now ∧ (pgS w v x m).2.cs = v.cs ∧ (pgS w v x m).2.Rs = v.Rs
  | 0 => ⟨rfl, rfl, rfl⟩
  | m + 1 => by
    obtain ⟨h1, h2, h3⟩ := pgS_v w v x m
    show ((pgS w v x m).2.asks _).now = _ ∧ ((pgS w v x m).2.asks _).cs = _ ∧ ((pgS w v x m).2.asks _).Rs = _
    rw [asks_now, (asks_cs _ _).1, (asks_cs _ _).2]
    exact ⟨h1, h2, h3⟩
def lastK (L : PL) (x : Int) : Int := match L.getLast? with | none => x | some p => p.1 + 1
/-- which key a page tells -/
def pgK (L : PL) (x many : Int) : Option Int :=
  if (L.length : Int) < many then none
  else if lastK (L.take many.toNat) x ≥ 100 then none else some (lastK (L.take many.toNat) x)
/-- when a page asks no more -/
def pgE (R : RF) (x many : Int) (m : Nat) : Prop := (∀ j, j < m → pgH x j < 100 ∧ ((rowsF R x (pgH x j)).length : Int) < many) ∧ (pgH x m = 100 ∨ many ≤ (rowsF R x (pgH x m)).length)
theorem rowsF_nil {R : RF} {a b : Int} (h : b ≤ a) : rowsF R a b = [] := by
  refine List.eq_nil_iff_forall_not_mem.mpr fun p hp => ?_
  have := mem_rowsF.mp hp
  omega
theorem pgH_step {x : Int} {j : Nat} (h : pgH x j < 100) : (if pgH x j + 8 < 100 then pgH x j + 8 else 100) = pgH x (j + 1) := by
  unfold pgH at *
  split at h
  · next c => rw [if_pos c]; split <;> split <;> omega
  · omega
theorem pgH_lt {x : Int} {j : Nat} (h : pgH x j < 100) : pgH x j < pgH x (j + 1) ∧ pgH x (j + 1) ≤ 100 := by
  rw [← pgH_step h]; split <;> omega
theorem pgH_ge {x : Int} (h0 : 0 ≤ x) {j : Nat} : 0 ≤ pgH x j := by unfold pgH; split <;> omega
section
variable {G : Gm} {n : Nat} {A B : AH} {Q : QE} {E : XQ} {t d : Addr} {k k' : Nat} {a : SA} {v v' : SV} {kv kv' : PL} {qs : List (KA × KV)} {q : KA} {w : KV} {x y : Int} {i : Nat}
theorem page_loop (g : KpG G) (m2k : Mt G 2 2 42) (hi : i < qs.length) (x0 : 0 ≤ x) (x1 : x < 100) {many : Int} {P : Pst} (fin : ∀ m B, pgE v.now x many m → WK B t k d a (pgS w v x m).2 kv (qs.set i (q, (pgS w v x m).1)) → P.nx [some (.ref q.k), some (.int x), some (.int many), some (spd (rowsF v.now x (pgH x m))), some (.int (pgH x m))] B) : ∀ (r j : Nat) (B : AH), r + j = 14 → (∀ l, l < j → pgH x l < 100 ∧ ((rowsF v.now x (pgH x l)).length : Int) < many) → WK B t k d a (pgS w v x j).2 kv (qs.set i (q, (pgS w v x j).1)) →
    dWhile (wpT (callN G (n + 7)) G (.and (.val (.cmp .lt (.var 4) (.cst (.int 100)))) (.val (.cmp .lt (.bi .len [(.var 3)]) (.var 2))))) (wpSs (callN G (n + 7)) G IR.Keeper_page_b1) r P [some (.ref q.k), some (.int x), some (.int many), some (spd (rowsF v.now x (pgH x j))), some (.int (pgH x j))] B
  | 0, j, B, hr, hb, W => by
    exfalso
    have := (hb 13 (by omega)).1
    unfold pgH at this
    split at this <;> omega
  | r + 1, j, B, hr, hb, W => by
    have ih := page_loop g m2k hi x0 x1 fin r (j + 1)
    obtain ⟨e1, e2, e3⟩ := pgS_v w v x j
    unfold dWhile
    walk_at "wpx"
    cases c1 : decide (pgH x j < 100) with
    | false =>
      walk_at "wpx"
      have : pgH x j = 100 := by
        have := of_decide_eq_false c1
        unfold pgH at this ⊢
        split <;> simp_all
      exact fin j B ⟨hb, .inl this⟩ W
    | true =>
      have c1 := of_decide_eq_true c1
      walk_at "wpx"
      rw [List.length_map]
      cases c2 : decide (((rowsF v.now x (pgH x j)).length : Int) < many) with
      | false =>
        walk_at "wpx"
        have := of_decide_eq_false c2
        exact fin j B ⟨hb, .inr (by omega)⟩ W
      | true =>
        have c2 := of_decide_eq_true c2
        have hs := pgH_step c1
        have hl := pgH_lt c1
        have h0 := pgH_ge x0 (j := j)
        have hg : (qs.set i (q, (pgS w v x j).1))[i]? = some (q, (pgS w v x j).1) := List.getElem?_set_self hi
        walk_at "wpx"
        unfold IR.Keeper_page_b1 at ih ⊢
        refine later_go ?_
        walk_at "wpx"
        rw [x_meth m2k (W.kp1 hg).o]
        walk_at "wpx"
        rw [hs]
        refine WK.kask g W hg (x := pgH x j) (y := pgH x (j + 1)) ⟨h0, hl.1, hl.2⟩ fun C WC f => ?_
        rw [List.set_set] at WC
        walk_at "wpx"
        rw [e1]
        have hz1 := rowsF_len v.now x (pgH x j)
        have hz2 := rowsF_len v.now (pgH x j) (pgH x (j + 1))
        refine ⟨DL.size_ok (by rw [List.length_map, List.length_map]; omega), ?_⟩
        have hxx : x ≤ pgH x j := by unfold pgH; split <;> omega
        rw [spd_app, rowsF_app hxx (by omega)]
        refine later_go ?_
        walk_at "wpx"
        rw [hs]
        refine ih C (by omega) (fun l hl2 => ?_) WC
        by_cases c : l = j
        · subst c; exact ⟨c1, c2⟩
        · exact hb l (by omega)
theorem WK.kpage (g : KpG G) (m2k : Mt G 2 2 42) (g43 : G.fn 43 = some ⟨3, 5, IR.Keeper_page⟩) (W : WK A t k d a v kv qs) (hi : qs[i]? = some (q, w)) (x0 : 0 ≤ x) (x1 : x < 100) {many : Int} (hm : 0 ≤ many) (c : ∀ m B, pgE v.now x many m → WK B t k d a (pgS w v x m).2 kv (qs.set i (q, (pgS w v x m).1)) → Q (.tup [spd ((rowsF v.now x 100).take many.toNat), optD (pgK (rowsF v.now x 100) x many)]) B) : callN G (n + 8) 43 [.ref q.k, .int x, .int many] A Q E := by
  have hil := (List.getElem?_eq_some_iff.mp hi).1
  have hset : qs.set i (q, w) = qs := by
    refine List.ext_getElem? fun j => ?_
    by_cases c : i = j
    · subst c; rw [List.getElem?_set_self hil, hi]
    · rw [List.getElem?_set_ne c]
  refine callN_mk g43 rfl ?_
  have tail : ∀ (m : Nat) (B : AH), pgE v.now x many m → WK B t k d a (pgS w v x m).2 kv (qs.set i (q, (pgS w v x m).1)) → later (callN G (n + 7)) G (IR.Keeper_page.drop 3) (endP Q E) [some (.ref q.k), some (.int x), some (.int many), some (spd (rowsF v.now x (pgH x m))), some (.int (pgH x m))] B := by
    intro m B hE WB
    have hc := c m B hE WB
    have hxx : x ≤ pgH x m := by unfold pgH; split <;> omega
    have hle : pgH x m ≤ 100 := by unfold pgH; split <;> omega
    have eapp := rowsF_app (R := v.now) hxx hle
    refine later_go ?_
    unfold IR.Keeper_page
    simp only [List.drop_succ_cons, List.drop_zero]
    walk_at "wpx"
    rw [List.length_map]
    cases cl : decide (many ≤ ((rowsF v.now x (pgH x m)).length : Int)) with
    | false =>
      have cl := of_decide_eq_false cl
      have h100 : pgH x m = 100 := hE.2.resolve_right cl
      rw [h100] at cl ⊢
      have hk : pgK (rowsF v.now x 100) x many = none := by unfold pgK; rw [if_pos (by omega)]
      rw [hk, List.take_of_length_le (by omega)] at hc
      walk_at "wgo"
      rw [decide_eq_true (by omega : (100 : Int) ≤ 100)]
      walk_at "wgo"
      exact ret_here hc
    | true =>
      have cl := of_decide_eq_true cl
      obtain ⟨mn, rfl⟩ := Int.eq_ofNat_of_zero_le hm
      have ht : (rowsF v.now x 100).take mn = (rowsF v.now x (pgH x m)).take mn := by
        rw [← eapp, List.take_append_of_le_length (by omega)]
      rw [Int.toNat_natCast] at hc
      have hk : pgK (rowsF v.now x 100) x mn = if lastK ((rowsF v.now x (pgH x m)).take mn) x ≥ 100 then none else some (lastK ((rowsF v.now x (pgH x m)).take mn) x) := by
        unfold pgK
        have hlen : (rowsF v.now x (pgH x m)).length ≤ (rowsF v.now x 100).length := by rw [← eapp, List.length_append]; omega
        rw [if_neg (by omega), Int.toNat_natCast, ht]
      rw [hk, ht] at hc
      walk_at "wgo"
      rw [cut_to', show ((rowsF v.now x (pgH x m)).map prD).take mn = prs ((rowsF v.now x (pgH x m)).take mn) by rw [prs, List.map_take]]
      generalize (rowsF v.now x (pgH x m)).take mn = L at hc ⊢
      rcases List.eq_nil_or_concat L with rfl | ⟨L', p, rfl⟩
      · walk_at "wgo"
        rw [show (!([] : List D).isEmpty) = false from rfl]
        walk_at "wgo"
        rw [decide_eq_false (by omega : ¬ (100 : Int) ≤ x)]
        walk_at "wgo"
        have e : lastK [] x = x := rfl
        rw [e, if_neg (by omega)] at hc
        exact ret_here hc
      · rw [List.concat_eq_append] at hc ⊢
        have e : lastK (L' ++ [p]) x = p.1 + 1 := by unfold lastK; rw [List.getLast?_append]; rfl
        rw [e] at hc
        walk_at "wgo"
        rw [show (!(prs (L' ++ [p])).isEmpty) = true by simp [prs]]
        walk_at "wgo"
        rw [x_ixT (show L2.atI (prs (L' ++ [p])) (-1) = some (prD p) by rw [prs, List.map_append]; exact atI_last _ _)]
        rw [show prD p = .tup [.int p.1, .int p.2] from rfl, x_ixT (atI0 _ _)]
        walk_at "wgo"
        cases c3 : decide (100 ≤ p.1 + 1) with
        | true =>
          rw [if_pos (of_decide_eq_true c3)] at hc
          walk_at "wgo"
          exact ret_here hc
        | false =>
          rw [if_neg (of_decide_eq_false c3)] at hc
          walk_at "wgo"
          exact ret_here hc
  generalize hrs : IR.Keeper_page.drop 3 = rs at tail
  unfold IR.Keeper_page at hrs ⊢
  simp only [List.drop_succ_cons, List.drop_zero] at hrs
  rw [hrs]
  walk_at "wgo"
  refine ⟨14, ?_⟩
  have hx0 : pgH x 0 = x := by unfold pgH; rw [if_pos (by omega)]; omega
  have e0 : D.tup [] = spd (rowsF v.now x (pgH x 0)) := by rw [hx0, rowsF_nil (Int.le_refl _)]; rfl
  have := page_loop (n := n) (P := ⟨fun δ' A' => later (callN G (n + 7)) G rs (endP Q E) δ' A', (endP Q E).rt, (endP Q E).ct, (endP Q E).ex⟩) (w := w) (v := v) (k := k) (t := t) (d := d) (a := a) (kv := kv) (many := many) g m2k hil x0 x1 (fun m B hE WB => tail m B hE WB) 14 0 A rfl (fun l hl => by omega) (by show WK A t k d a v kv (qs.set i (q, w)); rw [hset]; exact W)
  rw [← e0, hx0] at this
  exact this
end
end DP

set_option Elab.async false
set_option linter.all false
set_option maxRecDepth 100000
/-! the fewest keys -/
namespace DP
open DL PySem
open L2 hiding prD
end DP

set_option Elab.async false
set_option linter.all false
set_option maxRecDepth 100000
/-! keepers with room for all -/
namespace DP
open DL PySem
open L2 hiding prD
end DP

set_option Elab.async false
set_option linter.all false
set_option maxRecDepth 100000
/-! pages led on, pages of what is kept -/
namespace DP
open DL PySem
open L2 hiding prD
theorem rowsF_take {R : RF} {y : Int} {m : Nat} {L' : PL} {p : Int × Int} (h : (rowsF R y 100).take m = L' ++ [p]) : rowsF R y (p.1 + 1) = L' ++ [p] := by
  have hpm : p ∈ rowsF R y 100 := List.mem_of_mem_take (by rw [h]; simp)
  have hp := mem_rowsF.mp hpm
  have e1 := rowsF_app (R := R) (a := y) (m := p.1 + 1) (b := 100) (by omega) (by omega)
  have e2 := List.take_append_drop m (rowsF R y 100)
  rw [h] at e2
  have pw := rowsF_pw R y 100
  have f1 : (rowsF R y 100).filter (fun q => decide (q.1 < p.1 + 1)) = rowsF R y (p.1 + 1) := by
    rw [← e1, List.filter_append, List.filter_eq_self.mpr (fun q hq => decide_eq_true (mem_rowsF.mp hq).2.2.1), List.filter_eq_nil_iff.mpr (fun q hq => by have := (mem_rowsF.mp hq).2.1; simp; omega), List.append_nil]
  have f2 : (rowsF R y 100).filter (fun q => decide (q.1 < p.1 + 1)) = L' ++ [p] := by
    rw [← e2] at pw ⊢
    rw [List.pairwise_append] at pw
    rw [List.filter_append, List.filter_eq_self.mpr (fun q hq => ?_), List.filter_eq_nil_iff.mpr (fun q hq => ?_), List.append_nil]
    · have := pw.2.2 p (by simp) q hq
      simp; omega
    · rcases List.mem_append.mp hq with hq | hq
      · have := (List.pairwise_append.mp pw.1).2.2 q hq p (by simp)
        simp; omega
      · rw [List.mem_singleton.mp hq]; simp; omega
  rw [← f1, f2]
theorem pgK_some {R : RF} {x many b : Int} (hm : 1 ≤ many) (h : pgK (rowsF R x 100) x many = some b) : ∃ L' p, (rowsF R x 100).take many.toNat = L' ++ [p] ∧ b = p.1 + 1 ∧ x < b ∧ b < 100 ∧ (((rowsF R x 100).take many.toNat).length : Int) = many ∧ rowsF R x b = (rowsF R x 100).take many.toNat := by
  unfold pgK at h
  split at h
  · cases h
  · next c =>
    have hl : ((rowsF R x 100).take many.toNat).length = many.toNat := by rw [List.length_take]; omega
    rcases List.eq_nil_or_concat ((rowsF R x 100).take many.toNat) with e | ⟨L', p, e⟩
    · rw [e] at hl; simp at hl; omega
    · rw [List.concat_eq_append] at e
      have e2 : lastK ((rowsF R x 100).take many.toNat) x = p.1 + 1 := by rw [e]; unfold lastK; rw [List.getLast?_append]; rfl
      rw [e2] at h
      split at h
      · cases h
      · injection h with h
        have hp := mem_rowsF.mp (show p ∈ rowsF R x 100 from List.mem_of_mem_take (by rw [e]; simp))
        exact ⟨L', p, e, h.symm, by omega, by omega, by rw [hl]; omega, by rw [e, ← h]; exact rowsF_take e⟩
theorem pgK_none {R : RF} {x many : Int} (hm : 1 ≤ many) (h : pgK (rowsF R x 100) x many = none) : (rowsF R x 100).take many.toNat = rowsF R x 100 ∧ (((rowsF R x 100).take many.toNat).length = many → ∃ L' p, (rowsF R x 100).take many.toNat = L' ++ [p] ∧ p.1 = 99) := by
  unfold pgK at h
  split at h
  · next c =>
    have : (rowsF R x 100).take many.toNat = rowsF R x 100 := List.take_of_length_le (by omega)
    exact ⟨this, fun e => by rw [this] at e; omega⟩
  · next c =>
    have hl : ((rowsF R x 100).take many.toNat).length = many.toNat := by rw [List.length_take]; omega
    rcases List.eq_nil_or_concat ((rowsF R x 100).take many.toNat) with e | ⟨L', p, e⟩
    · rw [e] at hl; simp at hl; omega
    · rw [List.concat_eq_append] at e
      have e2 : lastK ((rowsF R x 100).take many.toNat) x = p.1 + 1 := by rw [e]; unfold lastK; rw [List.getLast?_append]; rfl
      rw [e2] at h
      split at h
      · next c2 =>
        have hp := mem_rowsF.mp (show p ∈ rowsF R x 100 from List.mem_of_mem_take (by rw [e]; simp))
        have e3 : p.1 = 99 := by omega
        refine ⟨?_, fun _ => ⟨L', p, e, e3⟩⟩
        rw [e, ← rowsF_take e, e3]; rfl
      · cases h
end DP

set_option Elab.async false
set_option linter.all false
set_option maxRecDepth 100000
set_option maxHeartbeats 1000000
/-! keepers by hand: a dict of words, a dict of stamps -/
namespace DP
open DL PySem
open L2 hiding prD
def sdL (room cost heard turn : Int) (ek : Addr) : List (Key × D) := [(.inr "room", .int room), (.inr "cost", .int cost), (.inr "heard", .int heard), (.inr "turn", .int turn), (.inr "kept", .ref ek)]
section
variable {A : AH} {Q : QE} {e ek : Addr} {room cost heard turn z : Int} {K : AH → Prop}
end
/-- a side: its own cell, that of its stamps -/
structure EA where
  e : Addr
  k : Addr
structure Sd (A : AH) (b : EA) (w : KV) : Prop where
  o : A b.e = some (.dk (sdL w.room w.cost w.heard w.turn b.k))
  st : ∃ kv, A b.k = some (.dk (dkI kv)) ∧ Rep kv w.st
  n : b.e ≠ b.k
theorem Sd.fr {A B : AH} {b : EA} {w : KV} {L : List Addr} (h : Sd A b w) (f : Fr L A B) (h1 : b.e ∉ L) (h2 : b.k ∉ L) : Sd B b w := by
  obtain ⟨kv, e, r⟩ := h.st
  exact ⟨f.at h1 h.o, ⟨kv, f.at h2 e, r⟩, h.n⟩
/-- only the stamps count -/
theorem Sd.same {A : AH} {b : EA} {w u : KV} (h : Sd A b w) (e1 : u.room = w.room) (e2 : u.cost = w.cost) (e3 : u.heard = w.heard) (e4 : u.turn = w.turn) (e5 : u.st = w.st) : Sd A b u := by
  refine ⟨by rw [e1, e2, e3, e4]; exact h.o, by rw [e5]; exact h.st, h.n⟩
section
variable {G : Gm} {n : Nat} {A : AH} {Q : QE} {E : XQ} {b : EA} {w : KV} {x y : Int} {lc : Addr} {cgs : List Cg} {v : SV}
end
end DP

set_option Elab.async false
set_option linter.all false
set_option maxRecDepth 100000
set_option maxHeartbeats 1000000
/-! keepers that share -/
namespace DP
open DL PySem
open L2 hiding prD
/-- what is new -/
def freshK (w u : KV) : PL := wo (kn u) (kn w)
/-- behind taking it, ahead of the shrinking -/
def KV.took (w u : KV) (v : SV) : KV := { w with turn := w.turn + 1, st := mixF (hasD (freshK w u)) (fun _ => some (w.turn + 1)) w.st, rw := mixF (hasD (freshK w u)) v.now w.rw }
def KV.shared (w u : KV) (v : SV) : KV := ((w.hear v).took (u.hear v) v).shrink
theorem fresh_ok (w u : KV) : okF 0 (freshK w u) := wo_ok _ _
theorem KOK.took {w u : KV} {v : SV} (h : KOK w v) (hu : KOK u v) (hh : Hist v) (hw : w.heard = v.cs.length) (hv : u.heard = v.cs.length) : KOK (w.took u v) v := by
  have hs : ∀ k, (w.took u v).st k = if hasD (freshK w u) k = true then some (w.turn + 1) else w.st k := fun k => rfl
  have hr : ∀ k, (w.took u v).rw k = if hasD (freshK w u) k = true then v.now k else w.rw k := fun k => rfl
  have hat : v.at w.heard = v.now := by rw [hw, ← now_at hh.len]
  refine ⟨h.h0, h.h1, fun k hk => ?_, fun k hk => ?_, fun k hk => ?_, fun k t hk => ?_⟩
  · rw [hs] at hk
    split at hk
    · next c => exact okF_rg (fresh_ok w u) c
    · exact h.rg k hk
  · rw [hs] at hk
    rw [hr]
    split at hk
    · cases hk
    · next c => rw [if_neg c]; exact h.sub k hk
  · rw [hr]
    show _ = v.at w.heard k
    rw [hat]
    rw [hs] at hk
    split
    · rfl
    · next c =>
      rw [if_neg c] at hk
      rw [h.ok k hk, hat]
  · rw [hs] at hk
    split at hk
    · injection hk with hk; show t ≤ w.turn + 1; omega
    · have := h.tn k t hk; show t ≤ w.turn + 1; omega
section
variable {G : Gm} {n : Nat} {A B : AH} {Q : QE} {E : XQ} {t d : Addr} {k k' : Nat} {a : SA} {v v' : SV} {kv kv' : PL} {qs : List (KA × KV)} {q p : KA} {w u : KV} {x y : Int} {i j : Nat}
/-- a keeper shares with itself -/
def KV.own (w : KV) (v : SV) : KV := ({ w.hear v with turn := (w.hear v).turn + 1 } : KV).shrink
end
end DP

set_option Elab.async false
set_option linter.all false
set_option maxRecDepth 100000
set_option maxHeartbeats 1000000
/-! a town, a source and keepers, without the rows beside -/
namespace DP
open DL PySem
open L2 hiding prD
structure WQ (A : AH) (t : Addr) (k : Nat) (a : SA) (v : SV) (qs : List (KA × KV)) : Prop where
  ht : A t = some (tw k)
  src : Src A a v
  hh : Hist v
  na : [t, a.s, a.st, a.ch].Nodup
  kp : ∀ p ∈ qs, Kp A p.1 a.s p.2
  ok : ∀ p ∈ qs, KOK p.2 v
  out : ∀ p ∈ qs, ∀ x ∈ p.1.L, x ∉ [t, a.s, a.st, a.ch]
  sep : ∀ (i j : Nat) (p r : KA × KV), i ≠ j → qs[i]? = some p → qs[j]? = some r → ∀ x ∈ p.1.L, x ∉ r.1.L
section
variable {G : Gm} {n : Nat} {A B : AH} {Q : QE} {E : XQ} {t : Addr} {k k' : Nat} {a : SA} {v v' : SV} {qs : List (KA × KV)} {q p : KA} {w u : KV} {x y : Int} {i j : Nat}
theorem WQ.nk (W : WQ A t k a v qs) (hi : (q, w) ∈ qs) : [a.s, a.st, a.ch, q.k, q.kt, q.kr].Nodup := by
  have h := W.kp _ hi
  have o := W.out _ hi
  have s := W.src
  have n1 := s.n1; have n2 := s.n2; have n3 := s.n3
  have m1 := h.n1; have m2 := h.n2; have m3 := h.n3
  have o1 := o _ q.k_mem
  have o2 := o _ q.kt_mem
  have o3 := o _ q.kr_mem
  simp only [List.mem_cons, List.not_mem_nil, or_false, not_or] at o1 o2 o3
  simp only [List.nodup_cons, List.mem_cons, List.not_mem_nil, or_false, not_or, not_false_eq_true, List.nodup_nil, and_true]
  exact ⟨⟨n1, n2, Ne.symm o1.2.1, Ne.symm o2.2.1, Ne.symm o3.2.1⟩, ⟨n3, Ne.symm o1.2.2.1, Ne.symm o2.2.2.1, Ne.symm o3.2.2.1⟩, ⟨Ne.symm o1.2.2.2, Ne.symm o2.2.2.2, Ne.symm o3.2.2.2⟩, ⟨m1, m2⟩, m3⟩
theorem WQ.fr {L : List Addr} (W : WQ A t k a v qs) (f : Fr L A B) (h : ∀ x ∈ [t, a.s, a.st, a.ch], x ∉ L) (h2 : ∀ p ∈ qs, ∀ x ∈ p.1.L, x ∉ L) : WQ B t k a v qs :=
  ⟨f.at (h t (by simp)) W.ht, W.src.fr f (h _ (by simp)) (h _ (by simp)) (h _ (by simp)), W.hh, W.na, fun p hp => (W.kp p hp).fr' f (h2 p hp), W.ok, W.out, W.sep⟩
theorem WQ.draw (W : WQ A t k a v qs) : WQ (up A t (tw k')) t k' a v qs := by
  have hf : Fr [t] A (up A t (tw k')) := Fr.refl.up (by simp)
  have h := W.na
  simp only [List.nodup_cons, List.mem_cons, List.not_mem_nil, or_false, not_or] at h
  refine ⟨up_same, W.src.fr hf (by simp [Ne.symm h.1.1]) (by simp [Ne.symm h.1.2.1]) (by simp [Ne.symm h.1.2.2]), W.hh, W.na, fun p hp => (W.kp p hp).fr' hf fun x hx => ?_, W.ok, W.out, W.sep⟩
  have := W.out p hp x hx
  simp only [List.mem_cons, List.not_mem_nil, or_false, not_or] at this ⊢
  exact this.1
theorem WQ.live (W : WQ A t k a v qs) {p : Addr} (np : A p = none) : (∀ x ∈ [t, a.s, a.st, a.ch], x ≠ p) ∧ ∀ r ∈ qs, ∀ x ∈ r.1.L, x ≠ p := by
  refine ⟨fun x hx => ?_, fun r hr => (W.kp r hr).live np⟩
  obtain ⟨kvs, e2, _⟩ := W.src.st
  simp only [List.mem_cons, List.not_mem_nil, or_false] at hx
  rcases hx with rfl | rfl | rfl | rfl
  · exact ne_free W.ht np
  · exact ne_free W.src.o np
  · exact ne_free e2 np
  · exact ne_free W.src.ch np
theorem WQ.new {p : Addr} {o : AO} (W : WQ A t k a v qs) (np : A p = none) : WQ (up A p o) t k a v qs :=
  W.fr (L := [p]) (Fr.refl.up (by simp)) (fun x hx => by simp [(W.live np).1 x hx]) fun r hr x hx => by simp [(W.live np).2 r hr x hx]
theorem WQ.one (W : WQ A t k a v qs) (hi : qs[i]? = some (q, w)) {w' : KV} {l : PL} (hk : Kp B q a.s w') (hs : Src B a (v.asks l)) (ok : KOK w' (v.asks l)) (f : Fr [a.s, q.k, q.kt, q.kr] A B) : WQ B t k a (v.asks l) (qs.set i (q, w')) := by
  have hm : (q, w) ∈ qs := List.mem_of_getElem? hi
  have hil := (List.getElem?_eq_some_iff.mp hi).1
  have ho := W.out _ hm
  have hn := W.na
  simp only [List.nodup_cons, List.mem_cons, List.not_mem_nil, or_false, not_or] at hn
  have ht : t ∉ [a.s, q.k, q.kt, q.kr] := by
    intro h
    rcases List.mem_cons.mp h with e | h
    · exact hn.1.1 e
    · exact ho t h (by simp)
  have hget : ∀ j r, (qs.set i (q, w'))[j]? = some r → (j = i ∧ r = (q, w')) ∨ (j ≠ i ∧ qs[j]? = some r) := fun j r hj => by
    by_cases c : i = j
    · subst c; rw [List.getElem?_set_self hil] at hj; injection hj with hj; exact .inl ⟨rfl, hj.symm⟩
    · rw [List.getElem?_set_ne c] at hj; exact .inr ⟨fun e => c e.symm, hj⟩
  refine ⟨f.at ht W.ht, hs, W.hh.asks l, W.na, fun r hr => ?_, fun r hr => ?_, fun r hr => ?_, fun i1 j1 p r hij hp hr => ?_⟩
  · obtain ⟨j, hj⟩ := List.mem_iff_getElem?.mp hr
    rcases hget j r hj with ⟨rfl, rfl⟩ | ⟨hne, hj⟩
    · exact hk
    · refine (W.kp r (List.mem_of_getElem? hj)).fr' f fun x hx h => ?_
      rcases List.mem_cons.mp h with e | h
      · exact W.out r (List.mem_of_getElem? hj) x hx (by rw [e]; simp)
      · exact W.sep j i r (q, w) hne hj hi x hx h
  · obtain ⟨j, hj⟩ := List.mem_iff_getElem?.mp hr
    rcases hget j r hj with ⟨rfl, rfl⟩ | ⟨hne, hj⟩
    · exact ok
    · exact (W.ok r (List.mem_of_getElem? hj)).asks l
  · obtain ⟨j, hj⟩ := List.mem_iff_getElem?.mp hr
    rcases hget j r hj with ⟨rfl, rfl⟩ | ⟨hne, hj⟩
    · exact ho
    · exact W.out r (List.mem_of_getElem? hj)
  · rcases hget i1 p hp with ⟨e1, e2⟩ | ⟨hne, hp2⟩
    · rcases hget j1 r hr with ⟨e3, e4⟩ | ⟨hne2, hr2⟩
      · exact absurd (e1.trans e3.symm) hij
      · rw [e2]; exact W.sep i j1 (q, w) r (fun e => hij (e1.trans e)) hi hr2
    · rcases hget j1 r hr with ⟨e3, e4⟩ | ⟨hne2, hr2⟩
      · rw [e4]; exact W.sep i1 i p (q, w) hne hp2 hi
      · exact W.sep i1 j1 p r hij hp2 hr2
theorem WQ.kask (g : KpG G) (W : WQ A t k a v qs) (hi : qs[i]? = some (q, w)) (hp : okSt (x, y)) (c : ∀ B, WQ B t k a (v.asks ((w.hear v).plan x y)) (qs.set i (q, w.asked v x y)) → Fr [a.s, q.k, q.kt, q.kr] A B → Q (spd (rowsF v.now x y)) B) : callN G (n + 7) 42 [.ref q.k, .int x, .int y] A Q E := by
  have hm : (q, w) ∈ qs := List.mem_of_getElem? hi
  have ok := W.ok _ hm
  have p0 : 0 ≤ x := hp.1
  have p1 : x < y := hp.2.1
  have p2 : y ≤ 100 := hp.2.2
  have okh := ok.hear W.hh
  refine kask_ok g (W.kp _ hm) W.src W.hh.rg ok.h0 ok.h1 (W.nk hm) p0 p2 (by omega) (by omega) fun B hB hs f => ?_
  rw [go_rows okh W.hh rfl p0 p2]
  exact c B (W.one hi hB hs ((okh.go W.hh rfl p0 p2).shrink.asks _) f) f
theorem WQ.kp1 (W : WQ A t k a v qs) (hi : qs[i]? = some (q, w)) : Kp A q a.s w := W.kp _ (List.mem_of_getElem? hi)
theorem WQ.ok1 (W : WQ A t k a v qs) (hi : qs[i]? = some (q, w)) : KOK w v := W.ok _ (List.mem_of_getElem? hi)
theorem WQ.kmake (g33 : G.fn 33 = some ⟨4, 4, IR.Keeper___init__⟩) (g22 : G.fn 22 = some ⟨1, 1, IR.Source_clock⟩) (m5 : Mt G 1 5 22) (W : WQ A t k a v qs) {p : Addr} {room cost : Int} (hp : A p = none) (c : ∀ (q : KA) B, q.k = p → WQ B t k a v (qs ++ [(q, KV.new room cost v.cs.length)]) → Fr [q.k, q.kt, q.kr] A B → (∀ x ∈ q.L, A x = none) → Q .non B) : callN G (n + 2) 33 [.ref p, .ref a.s, .int room, .int cost] (up A p (.ins 2 [])) Q E := by
  refine k_init g33 g22 m5 hp W.src fun q B e n2 n3 hB f => ?_
  have hno : ∀ x ∈ q.L, A x = none := fun x hx => by
    unfold KA.L at hx
    simp only [List.mem_cons, List.not_mem_nil, or_false] at hx
    rcases hx with rfl | rfl | rfl
    · rw [e]; exact hp
    · exact n2
    · exact n3
  refine c q B e ?_ f hno
  refine ⟨f.at (fun h => (W.live (hno t h)).1 t (by simp) rfl) W.ht, W.src.fr f (fun h => (W.live (hno _ h)).1 a.s (by simp) rfl) (fun h => (W.live (hno _ h)).1 a.st (by simp) rfl) (fun h => (W.live (hno _ h)).1 a.ch (by simp) rfl), W.hh, W.na, fun r hr => ?_, fun r hr => ?_, fun r hr => ?_, fun i j u r hij hu hr => ?_⟩
  · rcases List.mem_append.mp hr with hr | hr
    · exact (W.kp r hr).fr' f fun x hx h => (W.live (hno x h)).2 r hr x hx rfl
    · rw [List.mem_singleton.mp hr]; exact hB
  · rcases List.mem_append.mp hr with hr | hr
    · exact W.ok r hr
    · rw [List.mem_singleton.mp hr]; exact KOK.new _ _
  · rcases List.mem_append.mp hr with hr | hr
    · exact W.out r hr
    · rw [List.mem_singleton.mp hr]
      exact fun x hx h => (W.live (hno x hx)).1 x h rfl
  · have cases' : ∀ (j : Nat) (r : KA × KV), (qs ++ [(q, KV.new room cost v.cs.length)])[j]? = some r → (j < qs.length ∧ qs[j]? = some r) ∨ (j = qs.length ∧ r = (q, KV.new room cost v.cs.length)) := fun j r hj => by
      by_cases c : j < qs.length
      · rw [List.getElem?_append_left c] at hj; exact .inl ⟨c, hj⟩
      · rw [List.getElem?_append_right (by omega)] at hj
        have hl := (List.getElem?_eq_some_iff.mp hj).1
        rw [List.length_singleton] at hl
        have : j - qs.length = 0 := by omega
        rw [this] at hj
        injection hj with hj
        exact .inr ⟨by omega, hj.symm⟩
    rcases cases' i u hu with ⟨_, hu⟩ | ⟨h1, rfl⟩
    · rcases cases' j r hr with ⟨_, hr⟩ | ⟨_, rfl⟩
      · exact W.sep i j u r hij hu hr
      · exact fun x hx h => (W.live (hno x h)).2 u (List.mem_of_getElem? hu) x hx rfl
    · rcases cases' j r hr with ⟨_, hr⟩ | ⟨h2, rfl⟩
      · exact fun x hx h => (W.live (hno x hx)).2 r (List.mem_of_getElem? hr) x h rfl
      · exact absurd (h1.trans h2.symm) hij
/-- a change done -/
theorem WQ.chg (h119 : G.fn 119 = some ⟨2, 2, IR.law_do_change⟩) (g28 : G.fn 28 = some ⟨3, 4, IR.Source_put⟩) (g29 : G.fn 29 = some ⟨2, 3, IR.Source_drop⟩) (m17 : Mt G 1 17 28) (m6 : Mt G 1 6 29) (W : WQ A t k a v qs) {c : Cg} (h0 : 0 ≤ c.1) (h1 : c.1 < 100) (hz : v.cs.length < 9999) (h : ∀ B, WQ B t k a (v.put c.1 c.2) qs → Fr [a.st, a.ch] A B → Q .non B) : callN G (n + 2) 119 [.ref a.s, cgD c] A Q E := by
  refine law_do_ok h119 g28 g29 m17 m6 W.src h0 h1 hz fun B hB f => h B ?_ f
  have hn := W.na
  simp only [List.nodup_cons, List.mem_cons, List.not_mem_nil, or_false, not_or] at hn
  refine ⟨f.at (by simp [hn.1.2.1, hn.1.2.2]) W.ht, hB, W.hh.put c.2 h0 h1, W.na, fun p hp => (W.kp p hp).fr' f fun x hx z => ?_, fun p hp => (W.ok p hp).put W.hh _ _, W.out, W.sep⟩
  simp only [List.mem_cons, List.not_mem_nil, or_false] at z
  rcases z with z | z
  · exact W.out p hp x hx (by rw [z]; simp)
  · exact W.out p hp x hx (by rw [z]; simp)
theorem page_loopQ (g : KpG G) (m2k : Mt G 2 2 42) (hi : i < qs.length) (x0 : 0 ≤ x) (x1 : x < 100) {many : Int} {P : Pst} (fin : ∀ m B, pgE v.now x many m → WQ B t k a (pgS w v x m).2 (qs.set i (q, (pgS w v x m).1)) → P.nx [some (.ref q.k), some (.int x), some (.int many), some (spd (rowsF v.now x (pgH x m))), some (.int (pgH x m))] B) : ∀ (r j : Nat) (B : AH), r + j = 14 → (∀ l, l < j → pgH x l < 100 ∧ ((rowsF v.now x (pgH x l)).length : Int) < many) → WQ B t k a (pgS w v x j).2 (qs.set i (q, (pgS w v x j).1)) →
    dWhile (wpT (callN G (n + 7)) G (.and (.val (.cmp .lt (.var 4) (.cst (.int 100)))) (.val (.cmp .lt (.bi .len [(.var 3)]) (.var 2))))) (wpSs (callN G (n + 7)) G IR.Keeper_page_b1) r P [some (.ref q.k), some (.int x), some (.int many), some (spd (rowsF v.now x (pgH x j))), some (.int (pgH x j))] B
  | 0, j, B, hr, hb, W => by
    exfalso
    have := (hb 13 (by omega)).1
    unfold pgH at this
    split at this <;> omega
  | r + 1, j, B, hr, hb, W => by
    have ih := page_loopQ g m2k hi x0 x1 fin r (j + 1)
    obtain ⟨e1, e2, e3⟩ := pgS_v w v x j
    unfold dWhile
    walk_at "wpx"
    cases c1 : decide (pgH x j < 100) with
    | false =>
      walk_at "wpx"
      have : pgH x j = 100 := by
        have := of_decide_eq_false c1
        unfold pgH at this ⊢
        split <;> simp_all
      exact fin j B ⟨hb, .inl this⟩ W
    | true =>
      have c1 := of_decide_eq_true c1
      walk_at "wpx"
      rw [List.length_map]
      cases c2 : decide (((rowsF v.now x (pgH x j)).length : Int) < many) with
      | false =>
        walk_at "wpx"
        have := of_decide_eq_false c2
        exact fin j B ⟨hb, .inr (by omega)⟩ W
      | true =>
        have c2 := of_decide_eq_true c2
        have hs := pgH_step c1
        have hl := pgH_lt c1
        have h0 := pgH_ge x0 (j := j)
        have hg : (qs.set i (q, (pgS w v x j).1))[i]? = some (q, (pgS w v x j).1) := List.getElem?_set_self hi
        walk_at "wpx"
        unfold IR.Keeper_page_b1 at ih ⊢
        refine later_go ?_
        walk_at "wpx"
        rw [x_meth m2k (W.kp1 hg).o]
        walk_at "wpx"
        rw [hs]
        refine WQ.kask g W hg (x := pgH x j) (y := pgH x (j + 1)) ⟨h0, hl.1, hl.2⟩ fun C WC f => ?_
        rw [List.set_set] at WC
        walk_at "wpx"
        rw [e1]
        have hz1 := rowsF_len v.now x (pgH x j)
        have hz2 := rowsF_len v.now (pgH x j) (pgH x (j + 1))
        refine ⟨DL.size_ok (by rw [List.length_map, List.length_map]; omega), ?_⟩
        have hxx : x ≤ pgH x j := by unfold pgH; split <;> omega
        rw [spd_app, rowsF_app hxx (by omega)]
        refine later_go ?_
        walk_at "wpx"
        rw [hs]
        refine ih C (by omega) (fun l hl2 => ?_) WC
        by_cases c : l = j
        · subst c; exact ⟨c1, c2⟩
        · exact hb l (by omega)
theorem WQ.kpage (g : KpG G) (m2k : Mt G 2 2 42) (g43 : G.fn 43 = some ⟨3, 5, IR.Keeper_page⟩) (W : WQ A t k a v qs) (hi : qs[i]? = some (q, w)) (x0 : 0 ≤ x) (x1 : x < 100) {many : Int} (hm : 0 ≤ many) (c : ∀ m B, pgE v.now x many m → WQ B t k a (pgS w v x m).2 (qs.set i (q, (pgS w v x m).1)) → Q (.tup [spd ((rowsF v.now x 100).take many.toNat), optD (pgK (rowsF v.now x 100) x many)]) B) : callN G (n + 8) 43 [.ref q.k, .int x, .int many] A Q E := by
  have hil := (List.getElem?_eq_some_iff.mp hi).1
  have hset : qs.set i (q, w) = qs := by
    refine List.ext_getElem? fun j => ?_
    by_cases c : i = j
    · subst c; rw [List.getElem?_set_self hil, hi]
    · rw [List.getElem?_set_ne c]
  refine callN_mk g43 rfl ?_
  have tail : ∀ (m : Nat) (B : AH), pgE v.now x many m → WQ B t k a (pgS w v x m).2 (qs.set i (q, (pgS w v x m).1)) → later (callN G (n + 7)) G (IR.Keeper_page.drop 3) (endP Q E) [some (.ref q.k), some (.int x), some (.int many), some (spd (rowsF v.now x (pgH x m))), some (.int (pgH x m))] B := by
    intro m B hE WB
    have hc := c m B hE WB
    have hxx : x ≤ pgH x m := by unfold pgH; split <;> omega
    have hle : pgH x m ≤ 100 := by unfold pgH; split <;> omega
    have eapp := rowsF_app (R := v.now) hxx hle
    refine later_go ?_
    unfold IR.Keeper_page
    simp only [List.drop_succ_cons, List.drop_zero]
    walk_at "wpx"
    rw [List.length_map]
    cases cl : decide (many ≤ ((rowsF v.now x (pgH x m)).length : Int)) with
    | false =>
      have cl := of_decide_eq_false cl
      have h100 : pgH x m = 100 := hE.2.resolve_right cl
      rw [h100] at cl ⊢
      have hk : pgK (rowsF v.now x 100) x many = none := by unfold pgK; rw [if_pos (by omega)]
      rw [hk, List.take_of_length_le (by omega)] at hc
      walk_at "wgo"
      rw [decide_eq_true (by omega : (100 : Int) ≤ 100)]
      walk_at "wgo"
      exact ret_here hc
    | true =>
      have cl := of_decide_eq_true cl
      obtain ⟨mn, rfl⟩ := Int.eq_ofNat_of_zero_le hm
      have ht : (rowsF v.now x 100).take mn = (rowsF v.now x (pgH x m)).take mn := by
        rw [← eapp, List.take_append_of_le_length (by omega)]
      rw [Int.toNat_natCast] at hc
      have hk : pgK (rowsF v.now x 100) x mn = if lastK ((rowsF v.now x (pgH x m)).take mn) x ≥ 100 then none else some (lastK ((rowsF v.now x (pgH x m)).take mn) x) := by
        unfold pgK
        have hlen : (rowsF v.now x (pgH x m)).length ≤ (rowsF v.now x 100).length := by rw [← eapp, List.length_append]; omega
        rw [if_neg (by omega), Int.toNat_natCast, ht]
      rw [hk, ht] at hc
      walk_at "wgo"
      rw [cut_to', show ((rowsF v.now x (pgH x m)).map prD).take mn = prs ((rowsF v.now x (pgH x m)).take mn) by rw [prs, List.map_take]]
      generalize (rowsF v.now x (pgH x m)).take mn = L at hc ⊢
      rcases List.eq_nil_or_concat L with rfl | ⟨L', p, rfl⟩
      · walk_at "wgo"
        rw [show (!([] : List D).isEmpty) = false from rfl]
        walk_at "wgo"
        rw [decide_eq_false (by omega : ¬ (100 : Int) ≤ x)]
        walk_at "wgo"
        have e : lastK [] x = x := rfl
        rw [e, if_neg (by omega)] at hc
        exact ret_here hc
      · rw [List.concat_eq_append] at hc ⊢
        have e : lastK (L' ++ [p]) x = p.1 + 1 := by unfold lastK; rw [List.getLast?_append]; rfl
        rw [e] at hc
        walk_at "wgo"
        rw [show (!(prs (L' ++ [p])).isEmpty) = true by simp [prs]]
        walk_at "wgo"
        rw [x_ixT (show L2.atI (prs (L' ++ [p])) (-1) = some (prD p) by rw [prs, List.map_append]; exact atI_last _ _)]
        rw [show prD p = .tup [.int p.1, .int p.2] from rfl, x_ixT (atI0 _ _)]
        walk_at "wgo"
        cases c3 : decide (100 ≤ p.1 + 1) with
        | true =>
          rw [if_pos (of_decide_eq_true c3)] at hc
          walk_at "wgo"
          exact ret_here hc
        | false =>
          rw [if_neg (of_decide_eq_false c3)] at hc
          walk_at "wgo"
          exact ret_here hc
  generalize hrs : IR.Keeper_page.drop 3 = rs at tail
  unfold IR.Keeper_page at hrs ⊢
  simp only [List.drop_succ_cons, List.drop_zero] at hrs
  rw [hrs]
  walk_at "wgo"
  refine ⟨14, ?_⟩
  have hx0 : pgH x 0 = x := by unfold pgH; rw [if_pos (by omega)]; omega
  have e0 : D.tup [] = spd (rowsF v.now x (pgH x 0)) := by rw [hx0, rowsF_nil (Int.le_refl _)]; rfl
  have := page_loopQ (n := n) (P := ⟨fun δ' A' => later (callN G (n + 7)) G rs (endP Q E) δ' A', (endP Q E).rt, (endP Q E).ct, (endP Q E).ex⟩) (w := w) (v := v) (k := k) (t := t) (a := a) (many := many) g m2k hil x0 x1 (fun m B hE WB => tail m B hE WB) 14 0 A rfl (fun l hl => by omega) (by show WQ A t k a v (qs.set i (q, w)); rw [hset]; exact W)
  rw [← e0, hx0] at this
  exact this
end
end DP

set_option Elab.async false
set_option linter.all false
set_option maxRecDepth 100000
/-! plain: what is led to by stretches put on and taken away -/
namespace DP
open DL PySem
open L2 hiding prD
/-- a name for all that a key leads to -/
def lbl : List I3 → Int → Int
  | [], x => x
  | e :: r, x => if lbl r x = lbl r e.1 then lbl r e.2.1 else lbl r x
def conn (l : List I3) (x y : Int) : Bool := decide (lbl l x = lbl l y)
theorem lbl_edge : ∀ {l : List I3} {e : I3}, e ∈ l → lbl l e.1 = lbl l e.2.1
  | f :: r, e, h => by
    unfold lbl
    rcases List.mem_cons.mp h with rfl | h
    · rw [if_pos rfl]; split <;> rfl
    · rw [lbl_edge h]
theorem lbl_to {R : Int → Int → Prop} (rf : ∀ x, R x x) (sy : ∀ x y, R x y → R y x) (tr : ∀ x y z, R x y → R y z → R x z) : ∀ {l : List I3}, (∀ e ∈ l, R e.1 e.2.1) → ∀ x, R x (lbl l x)
  | [], _, x => rf x
  | e :: r, h, x => by
    have ih := lbl_to rf sy tr (l := r) fun f hf => h f (List.mem_cons_of_mem _ hf)
    unfold lbl
    split
    · next c =>
      refine tr _ _ _ (ih x) ?_
      rw [c]
      exact tr _ _ _ (sy _ _ (ih e.1)) (tr _ _ _ (h e List.mem_cons_self) (ih e.2.1))
    · exact ih x
theorem lbl_least {R : Int → Int → Prop} (rf : ∀ x, R x x) (sy : ∀ x y, R x y → R y x) (tr : ∀ x y z, R x y → R y z → R x z) {l : List I3} (h : ∀ e ∈ l, R e.1 e.2.1) {x y : Int} (e : lbl l x = lbl l y) : R x y := by
  have h1 := lbl_to rf sy tr h x
  have h2 := lbl_to rf sy tr h y
  rw [e] at h1
  exact tr _ _ _ h1 (sy _ _ h2)
theorem lbl_mono {l m : List I3} (h : ∀ e ∈ l, lbl m e.1 = lbl m e.2.1) {x y : Int} (e : lbl l x = lbl l y) : lbl m x = lbl m y :=
  lbl_least (R := fun x y => lbl m x = lbl m y) (fun _ => rfl) (fun _ _ h => h.symm) (fun _ _ _ h k => h.trans k) h e
theorem lbl_sub {l m : List I3} (h : ∀ e ∈ l, e ∈ m) {x y : Int} (e : lbl l x = lbl l y) : lbl m x = lbl m y := lbl_mono (fun e he => lbl_edge (h e he)) e
theorem lbl_idem (l : List I3) (x : Int) : lbl l (lbl l x) = lbl l x :=
  (lbl_to (R := fun x y => lbl l x = lbl l y) (fun _ => rfl) (fun _ _ h => h.symm) (fun _ _ _ h k => h.trans k) (fun _ he => lbl_edge he) x).symm
theorem lbl_in {M : List Int} : ∀ {l : List I3}, (∀ e ∈ l, e.1 ∈ M ∧ e.2.1 ∈ M) → ∀ {x : Int}, x ∈ M → lbl l x ∈ M
  | [], _, x, hx => hx
  | e :: r, h, x, hx => by
    have ih := fun {x : Int} (hx : x ∈ M) => lbl_in (l := r) (fun f hf => h f (List.mem_cons_of_mem _ hf)) hx
    unfold lbl
    split
    · exact ih (h e List.mem_cons_self).2
    · exact ih hx
/-- no stretch follows from the others -/
def Acyc (l : List I3) : Prop := ∀ l1 e l2, l = l1 ++ e :: l2 → lbl (l1 ++ l2) e.1 ≠ lbl (l1 ++ l2) e.2.1
theorem Acyc.nil : Acyc [] := fun l1 e l2 h => by simp at h
theorem Acyc.tail {e : I3} {r : List I3} (h : Acyc (e :: r)) : Acyc r ∧ lbl r e.1 ≠ lbl r e.2.1 := by
  refine ⟨fun l1 f l2 hr hc => ?_, h [] e r rfl⟩
  subst hr
  refine h (e :: l1) f l2 rfl (lbl_sub (fun z hz => ?_) hc)
  exact List.mem_cons_of_mem _ hz
theorem Acyc.perm {l m : List I3} (p : m.Perm l) (h : Acyc l) : Acyc m := fun m1 e m2 hm hc => by
  subst hm
  have hel : e ∈ l := p.mem_iff.mp (by simp)
  obtain ⟨l1, l2, rfl⟩ := List.append_of_mem hel
  have p2 : (m1 ++ m2).Perm (l1 ++ l2) := (List.perm_cons e).mp ((List.perm_middle.symm.trans p).trans List.perm_middle)
  exact h l1 e l2 rfl (lbl_sub (fun z hz => p2.mem_iff.mp hz) hc)
theorem Acyc.sub {l m : List I3} (s : m.Sublist l) (h : Acyc l) : Acyc m := by
  induction s with
  | slnil => exact h
  | cons e s ih => exact ih h.tail.1
  | @cons_cons m' l' e s ih =>
    refine fun m1 f m2 hm hc => ?_
    cases m1 with
    | nil =>
      injection hm with h1 h2
      subst h1 h2
      exact h.tail.2 (lbl_sub (fun z hz => s.subset hz) hc)
    | cons g m1 =>
      injection hm with h1 h2
      subst h1 h2
      -- f stands in l', too
      obtain ⟨l1, l2, e2, s1, s2⟩ : ∃ l1 l2, l' = l1 ++ f :: l2 ∧ (∀ z ∈ m1, z ∈ l1) ∧ ∀ z ∈ m2, z ∈ l2 := by
        obtain ⟨l1, l2, e1, s1, s2⟩ := List.append_sublist_iff.mp s
        obtain ⟨k1, k2, e3, s3, s4⟩ := List.cons_sublist_iff.mp s2
        obtain ⟨j1, j2, rfl⟩ := List.append_of_mem s3
        refine ⟨l1 ++ j1, j2 ++ k2, by rw [e1, e3]; simp, fun z hz => List.mem_append_left _ (s1.subset hz), fun z hz => List.mem_append_right _ (s4.subset hz)⟩
      refine h (e :: l1) f l2 (by rw [e2]; rfl) (lbl_sub (fun z hz => ?_) hc)
      rcases List.mem_append.mp hz with hz | hz
      · rcases List.mem_cons.mp hz with rfl | hz
        · simp
        · simp [s1 z hz]
      · simp [s2 z hz]
theorem lbl_split {l : List I3} {e : I3} {x y : Int} (h : lbl (e :: l) x = lbl (e :: l) y) : lbl l x = lbl l y ∨ (lbl l x = lbl l e.1 ∧ lbl l y = lbl l e.2.1) ∨ (lbl l x = lbl l e.2.1 ∧ lbl l y = lbl l e.1) := by
  unfold lbl at h
  split at h
  · next c =>
    split at h
    · next c2 => exact .inl (c.trans c2.symm)
    · exact .inr (.inl ⟨c, h.symm⟩)
  · split at h
    · next c2 => exact .inr (.inr ⟨h, c2⟩)
    · exact .inl h
theorem Acyc.cons {l : List I3} {e : I3} (h : Acyc l) (hn : lbl l e.1 ≠ lbl l e.2.1) : Acyc (e :: l) := fun m1 f m2 hm hc => by
  cases m1 with
  | nil =>
    injection hm with h1 h2
    subst h1 h2
    exact hn hc
  | cons g m1 =>
    injection hm with h1 h2
    subst h1 h2
    have hf := h m1 f m2 rfl
    have up : ∀ {x y : Int}, lbl (m1 ++ m2) x = lbl (m1 ++ m2) y → lbl (m1 ++ f :: m2) x = lbl (m1 ++ f :: m2) y := fun h => lbl_sub (fun z hz => by
      rcases List.mem_append.mp hz with hz | hz
      · exact List.mem_append_left _ hz
      · exact List.mem_append_right _ (List.mem_cons_of_mem _ hz)) h
    have ef : lbl (m1 ++ f :: m2) f.1 = lbl (m1 ++ f :: m2) f.2.1 := lbl_edge (by simp)
    rcases lbl_split hc with c | ⟨c1, c2⟩ | ⟨c1, c2⟩
    · exact hf c
    · exact hn ((up c1).symm.trans (ef.trans (up c2)))
    · exact hn ((up c2).symm.trans (ef.symm.trans (up c1)))
/-- so many names are left as there are keys without the stretches -/
theorem roots {M : List Int} (hM : M.Nodup) : ∀ {l : List I3}, Acyc l → (∀ e ∈ l, e.1 ∈ M ∧ e.2.1 ∈ M) → (M.filter fun x => decide (lbl l x = x)).length + l.length = M.length
  | [], _, _ => by
    rw [List.filter_eq_self.mpr fun x _ => by simp [lbl], List.length_nil]; rfl
  | e :: r, h, hin => by
    have hin2 := fun f hf => hin f (List.mem_cons_of_mem _ hf)
    have ih := roots hM h.tail.1 hin2
    have hne := h.tail.2
    have ha : lbl r e.1 ∈ M := lbl_in hin2 (hin e List.mem_cons_self).1
    have hr : lbl r e.1 ∈ M.filter fun x => decide (lbl r x = x) := List.mem_filter.mpr ⟨ha, by rw [lbl_idem]; simp⟩
    have e1 : (M.filter fun x => decide (lbl (e :: r) x = x)) = (M.filter fun x => decide (lbl r x = x)).erase (lbl r e.1) := by
      rw [List.Nodup.erase_eq_filter (hM.filter _), List.filter_filter]
      refine List.filter_congr fun x _ => ?_
      rw [Bool.eq_iff_iff]
      simp only [Bool.and_eq_true, decide_eq_true_eq, bne_iff_ne, ne_eq]
      show (if lbl r x = lbl r e.1 then lbl r e.2.1 else lbl r x) = x ↔ _
      constructor
      · intro hx
        split at hx
        · next c =>
          exfalso
          have : lbl r x = lbl r e.2.1 := by rw [← hx, lbl_idem]
          exact hne (c.symm.trans this)
        · next c => exact ⟨fun z => c (by rw [hx, z]), hx⟩
      · rintro ⟨h1, h2⟩
        rw [if_neg (fun c => h1 (h2.symm.trans c)), h2]
    have hlen := List.length_erase_of_mem hr
    have hpos : 0 < (M.filter fun x => decide (lbl r x = x)).length := List.length_pos_of_mem hr
    rw [e1, hlen, List.length_cons]
    omega
theorem few {M : List Int} (hM : M.Nodup) (hne : M ≠ []) {l : List I3} (h : Acyc l) (hin : ∀ e ∈ l, e.1 ∈ M ∧ e.2.1 ∈ M) : l.length + 1 ≤ M.length := by
  have := roots hM h hin
  obtain ⟨x, hx⟩ := List.exists_mem_of_ne_nil M hne
  have : 0 < (M.filter fun x => decide (lbl l x = x)).length := List.length_pos_of_mem (List.mem_filter.mpr ⟨lbl_in hin hx, by rw [lbl_idem]; simp⟩)
  omega
theorem full {M : List Int} (hM : M.Nodup) (hne : M ≠ []) {l : List I3} (h : Acyc l) (hin : ∀ e ∈ l, e.1 ∈ M ∧ e.2.1 ∈ M) (hc : ∀ x ∈ M, ∀ y ∈ M, lbl l x = lbl l y) : l.length + 1 = M.length := by
  have h1 := roots hM h hin
  have h2 := few hM hne h hin
  have h3 : (M.filter fun x => decide (lbl l x = x)).length ≤ 1 := by
    have nd := hM.filter (fun x => decide (lbl l x = x))
    match hf : M.filter fun x => decide (lbl l x = x), nd with
    | [], _ => simp
    | [_], _ => simp
    | x :: y :: r, nd =>
      exfalso
      have hx : x ∈ M.filter fun x => decide (lbl l x = x) := by rw [hf]; simp
      have hy : y ∈ M.filter fun x => decide (lbl l x = x) := by rw [hf]; simp
      obtain ⟨hx1, hx2⟩ := List.mem_filter.mp hx
      obtain ⟨hy1, hy2⟩ := List.mem_filter.mp hy
      have hx2 := of_decide_eq_true hx2
      have hy2 := of_decide_eq_true hy2
      have : x = y := by rw [← hx2, ← hy2]; exact hc x hx1 y hy1
      exact (List.pairwise_cons.mp nd).1 y (by simp) this
  omega
end DP

set_option Elab.async false
set_option linter.all false
set_option maxRecDepth 100000
set_option maxHeartbeats 1000000
/-! summers: what follows -/
namespace DP
open DL PySem
open L2 hiding prD
structure SmV where
  heard : Int
  kept : List I3
  many : Int
def smO (s : Addr) (m : SmV) : AO := .ins 3 [.ref s, .int m.heard, .tup (m.kept.map triD), .int m.many]
/-- the dict of what is found: keys, and what stands at each by a law -/
def fnd (g : Int → Int) (ks : List Int) : PL := ks.map fun k => (k, g k)
theorem fnd_val {g : Int → Int} {ks : List Int} {k : Int} : valD (dkI (fnd g ks)) (.inl k) = if k ∈ ks then some (.int (g k)) else none := by
  rw [find_dk]
  unfold fnd
  induction ks with
  | nil => rfl
  | cons a r ih =>
    rw [List.map_cons, List.find?_cons]
    by_cases c : a = k
    · subst c
      simp
    · rw [show decide ((a, g a).1 = k) = false from decide_eq_false c]
      rw [ih]
      have : (k ∈ a :: r) ↔ k ∈ r := by simp [Ne.symm c]
      simp only [this]
theorem fnd_put {g : Int → Int} {ks : List Int} {k : Int} (h : k ∉ ks) : putD (dkI (fnd g ks)) (.inl k) (.int (g k)) = dkI (fnd g (ks ++ [k])) := by
  rw [put_dk]
  unfold DP.put
  rw [if_neg]
  · unfold fnd; rw [List.map_append]; rfl
  · intro c
    obtain ⟨p, hp, hk⟩ := List.any_eq_true.mp c
    have hk := of_decide_eq_true hk
    obtain ⟨z, hz, rfl⟩ := List.mem_map.mp hp
    exact h (hk ▸ hz)
theorem fnd_len (g : Int → Int) (ks : List Int) : (dkI (fnd g ks)).length = ks.length := by unfold dkI fnd; rw [List.length_map, List.length_map]
section
variable {A : AH} {Q : QE} {g : Int → Int} {ks : List Int} {p : Addr} {k : Int}
theorem x_nkinF (h : A p = some (.dk (dkI (fnd g ks)))) : dCmp .nkin (.int k) (.ref p) A Q = Q (.bl (!decide (k ∈ ks))) A := by
  show (match dicD A (.ref p), keyD (.int k) with | some kvs, some k => Q (.bl (!(valD kvs k).isSome)) A | _, _ => False) = _
  rw [dic_ref h]
  show Q (.bl (!(valD (dkI (fnd g ks)) (.inl k)).isSome)) A = _
  rw [fnd_val]
  by_cases c : k ∈ ks
  · rw [if_pos c, decide_eq_true c]; rfl
  · rw [if_neg c, decide_eq_false c]; rfl
theorem x_ixFd (h : A p = some (.dk (dkI (fnd g ks)))) (hk : k ∈ ks) : dIx (.ref p) (.int k) A Q = Q (.int (g k)) A := by
  have e : seqD A (.ref p) = none := by simp only [seqD, h]
  simp only [dIx, e, dic_ref h, fnd_val, if_pos hk]
theorem x_subFd {K : AH → Prop} {w : Int} (h : A p = some (.dk (dkI (fnd g ks)))) (hk : k ∉ ks) (hz : ks.length < 10000) (hw : w = g k) (q : K (up A p (.dk (dkI (fnd g (ks ++ [k])))))) : dSub (.ref p) (.int k) (.int w) A K := by
  subst hw
  simp only [dSub, h, fnd_put hk]
  exact ⟨DL.size_lt (by rw [fnd_len]; omega), q⟩
theorem x_getFd (h : A p = some (.dk (dkI (fnd g ks)))) : dBm .get (.ref p) [.int k, .non] A Q = Q (optD (if k ∈ ks then some (g k) else none)) A := by
  show (match dicD A (.ref p), keyD (.int k) with | some kvs, some k => Q ((valD kvs k).getD .non) A | _, _ => False) = _
  rw [dic_ref h]
  show Q ((valD (dkI (fnd g ks)) (.inl k)).getD .non) A = _
  rw [fnd_val]
  split <;> rfl
end
theorem x_popL {A : AH} {Q : QE} {a : Addr} {xs : List D} {x : D} (h : A a = some (.lst (xs ++ [x]))) (q : Q x (up A a (.lst xs))) : dBm .pop (.ref a) [] A Q := by
  simp only [dBm, h]
  rw [show (xs ++ [x]).length - 1 = xs.length by rw [List.length_append, List.length_singleton]; omega, List.getElem?_append_right (Nat.le_refl _), Nat.sub_self]
  show Q x (up A a (.lst (xs ++ [x]).dropLast))
  rw [List.dropLast_concat]
  exact q
/-- what the walk has found -/
structure Fd (E : List I3) (x : Int) (ks ls : List Int) : Prop where
  nd : ks.Nodup
  fst : x ∈ ks
  sub : ∀ k ∈ ls, k ∈ ks
  con : ∀ k ∈ ks, lbl E k = lbl E x
  ver : ∀ k ∈ ks, k = x ∨ ∃ e ∈ E, k = e.1 ∨ k = e.2.1
  cls : ∀ k ∈ ks, k ∉ ls → ∀ e ∈ E, (e.1 = k → e.2.1 ∈ ks) ∧ (e.2.1 = k → e.1 ∈ ks)
def vts (E : List I3) (x : Int) : List Int := x :: (E.map (·.1) ++ E.map (·.2.1))
theorem vts_len (E : List I3) (x : Int) : (vts E x).length = 2 * E.length + 1 := by unfold vts; rw [List.length_cons, List.length_append, List.length_map, List.length_map]; omega
theorem Fd.few {E : List I3} {x : Int} {ks ls : List Int} (h : Fd E x ks ls) : ks.length ≤ 2 * E.length + 1 := by
  rw [← vts_len E x]
  refine List.Nodup.length_le_of_subset h.nd fun k hk => ?_
  unfold vts
  rcases h.ver k hk with rfl | ⟨e, he, rfl | rfl⟩
  · simp
  · exact List.mem_cons_of_mem _ (List.mem_append_left _ (List.mem_map.mpr ⟨e, he, rfl⟩))
  · exact List.mem_cons_of_mem _ (List.mem_append_right _ (List.mem_map.mpr ⟨e, he, rfl⟩))
/-- within a turn: new keys beside the one looked at -/
structure Fn (E : List I3) (x here : Int) (ks ls : List Int) (j : Nat) (new : List Int) : Prop where
  nd : (ks ++ new).Nodup
  con : ∀ k ∈ new, lbl E k = lbl E here
  ver : ∀ k ∈ new, ∃ e ∈ E, k = e.1 ∨ k = e.2.1
  cls : ∀ e ∈ E.take j, (e.1 = here → e.2.1 ∈ ks ++ new) ∧ (e.2.1 = here → e.1 ∈ ks ++ new)
/-- at the end all that follows is found -/
theorem Fd.done {E : List I3} {x : Int} {ks : List Int} (h : Fd E x ks []) (y : Int) : y ∈ ks ↔ conn E x y = true := by
  unfold conn
  rw [decide_eq_true_eq]
  constructor
  · intro hy; exact (h.con y hy).symm
  · intro e
    have := lbl_least (R := fun a b => a ∈ ks ↔ b ∈ ks) (fun _ => Iff.rfl) (fun _ _ h => h.symm) (fun _ _ _ h k => h.trans k) (l := E) (fun e he => ⟨fun z => (h.cls _ z (by simp) e he).1 rfl, fun z => (h.cls _ z (by simp) e he).2 rfl⟩) e
    exact this.mp h.fst
section
variable {G : Gm} {n : Nat} {A : AH} {Q : QE} {E : XQ} {u s : Addr} {m : SmV} {x y : Int}
abbrev flS (u : Addr) (x y : Int) (p b : Addr) (d5 d6 d7 d8 : Option D) : DSt := [some (.ref u), some (.int x), some (.int y), some (.ref p), some (.ref b), d5, d6, d7, d8]
theorem fl_turn {c : CallT} {P : Int → Int} (hP : ∀ e ∈ m.kept, e.2.2 = P e.2.1 - P e.1) {p b : Addr} (hpb : p ≠ b) {here : Int} {ks ls : List Int} (hh : here ∈ ks) (hz : ks.length + 2 * m.kept.length < 5000) {L : Pst} {d6 d7 d8 : Option D}
    (hl : ks.length ≤ 2000 ∧ ls.length ≤ 2000) (hnd : ks.Nodup) (fin : ∀ new d6 d7 d8, Fn m.kept x here ks ls m.kept.length new → L.nx (flS u x y p b (some (.int here)) d6 d7 d8) (up (up A p (.dk (dkI (fnd (fun k => P k - P x) (ks ++ new))))) b (.lst ((ls ++ new).map .int)))) :
    dFor (.tp [.nm 6, .nm 7, .nm 8]) (fun _ => True) (wpSs c G IR.Summer_follows_b1) (m.kept.map triD) L (flS u x y p b (some (.int here)) d6 d7 d8) (up (up A p (.dk (dkI (fnd (fun k => P k - P x) ks)))) b (.lst (ls.map .int))) := by
  refine for_inv (fun j δ B => ∃ d6 d7 d8 new, δ = flS u x y p b (some (.int here)) d6 d7 d8 ∧ B = up (up A p (.dk (dkI (fnd (fun k => P k - P x) (ks ++ new))))) b (.lst ((ls ++ new).map .int)) ∧ new.length ≤ 2 * j ∧ Fn m.kept x here ks ls j new) _ 0 (fun j z δ B M hj hI hM => ?_) ⟨d6, d7, d8, [], rfl, by rw [List.append_nil, List.append_nil], by simp, ⟨by rw [List.append_nil]; exact hnd, (fun k hk => by cases hk), (fun k hk => by cases hk), fun e he => by rw [List.take_zero] at he; cases he⟩⟩ ?_
  · obtain ⟨d6, d7, d8, new, rfl, rfl, hnl, hF⟩ := hI
    obtain ⟨e, he, rfl⟩ := List.getElem?_map ▸ hj |> Option.map_eq_some_iff.mp
    have hem := List.mem_of_getElem? he
    have hjl := (List.getElem?_eq_some_iff.mp he).1
    have hpe := hP e hem
    have hle := lbl_edge hem
    rw [Nat.zero_add] at hnl hF hM
    obtain ⟨x1, x2, x3⟩ := e
    have hpe : x3 = P x2 - P x1 := hpe
    refine ⟨True.intro, ?_⟩
    rw [show triD (x1, x2, x3) = .tup [.int x1, .int x2, .int x3] from rfl]
    unfold IR.Summer_follows_b1
    walk_at "wpx"
    have etk : m.kept.take (j + 1) = m.kept.take j ++ [(x1, x2, x3)] := by rw [List.take_add_one, he]; rfl
    -- the second test
    have second : ∀ (new : List Int), new.length ≤ 2 * j + 1 → Fn m.kept x here ks ls j new → (x1 = here → x2 ∈ ks ++ new) → later c G [(.iff (.and (.val (.cmp .eq (.var 7) (.var 5))) (.val (.cmp .nkin (.var 6) (.var 3)))) [(.sub (.var 3) (.var 6) (.bin .sub (.ix (.var 3) (.var 5)) (.var 8))),
        (.expr (.bm .append (.var 4) [(.var 6)]))] [])] ⟨M, L.rt, M, L.ex⟩ (flS u x y p b (some (.int here)) (some (.int x1)) (some (.int x2)) (some (.int x3))) (up (up A p (.dk (dkI (fnd (fun k => P k - P x) (ks ++ new))))) b (.lst ((ls ++ new).map .int))) := by
      intro new hnl hF h12
      have hB1 : up (up A p (.dk (dkI (fnd (fun k => P k - P x) (ks ++ new))))) b (.lst ((ls ++ new).map .int)) p = some (.dk (dkI (fnd (fun k => P k - P x) (ks ++ new)))) := by rw [up_ne hpb]; exact up_same
      refine later_go ?_
      walk_at "wpx"
      by_cases c1 : x2 = here
      · rw [decide_eq_true c1]
        walk_at "wpx"
        rw [x_nkinF hB1]
        by_cases c2 : x1 ∈ ks ++ new
        · rw [decide_eq_true c2]
          walk_at "wpx"
          refine later_go ?_
          walk_at "wpx"
          refine hM _ _ ⟨_, _, _, new, rfl, rfl, by omega, ⟨hF.nd, hF.con, hF.ver, fun e he => ?_⟩⟩
          rw [etk] at he
          rcases List.mem_append.mp he with he | he
          · exact hF.cls e he
          · rw [List.mem_singleton.mp he]
            exact ⟨h12, fun _ => c2⟩
        · rw [decide_eq_false c2]
          walk_at "wpx"
          refine later_go ?_
          walk_at "wpx"
          rw [x_ixFd hB1 (List.mem_append_left _ hh)]
          walk_at "wpx"
          refine x_subFd hB1 c2 (by rw [List.length_append]; omega) (by subst c1; omega) ?_
          have hB2 : up (up (up A p (.dk (dkI (fnd (fun k => P k - P x) (ks ++ new))))) b (.lst ((ls ++ new).map .int))) p (.dk (dkI (fnd (fun k => P k - P x) (ks ++ new ++ [x1])))) b = some (.lst ((ls ++ new).map .int)) := by rw [up_ne hpb.symm]; exact up_same
          refine later_go ?_
          walk_at "wpx"
          rw [x_isL hB2]
          refine ⟨trivial, ?_⟩
          rw [x_app hB2]
          refine ⟨DL.size_lt (by rw [List.length_map, List.length_append]; omega), ?_⟩
          refine later_go ?_
          walk_at "wpx"
          refine hM _ _ ⟨_, _, _, new ++ [x1], rfl, ?_, by rw [List.length_append, List.length_singleton]; omega, ⟨?_, fun k hk => ?_, fun k hk => ?_, fun e he => ?_⟩⟩
          · rw [up_comm hpb.symm, up_up, up_up]; simp only [List.append_assoc, List.map_append, List.map_cons, List.map_nil]
          · rw [← List.append_assoc]
            exact List.nodup_append.mpr ⟨hF.nd, by simp, fun a ha b hb => by rw [List.mem_singleton.mp hb]; intro z; subst z; exact c2 ha⟩
          · rcases List.mem_append.mp hk with hk | hk
            · exact hF.con k hk
            · rw [List.mem_singleton.mp hk, ← c1]; exact hle
          · rcases List.mem_append.mp hk with hk | hk
            · exact hF.ver k hk
            · rw [List.mem_singleton.mp hk]; exact ⟨_, hem, .inl rfl⟩
          · rw [← List.append_assoc]
            rw [etk] at he
            rcases List.mem_append.mp he with he | he
            · exact ⟨fun z => List.mem_append_left _ ((hF.cls e he).1 z), fun z => List.mem_append_left _ ((hF.cls e he).2 z)⟩
            · rw [List.mem_singleton.mp he]
              exact ⟨fun z => List.mem_append_left _ (h12 z), fun _ => by simp⟩
      · rw [decide_eq_false c1]
        walk_at "wpx"
        refine later_go ?_
        walk_at "wpx"
        refine hM _ _ ⟨_, _, _, new, rfl, rfl, by omega, ⟨hF.nd, hF.con, hF.ver, fun e he => ?_⟩⟩
        rw [etk] at he
        rcases List.mem_append.mp he with he | he
        · exact hF.cls e he
        · rw [List.mem_singleton.mp he]
          exact ⟨h12, fun z => absurd z c1⟩
    have hB1 : up (up A p (.dk (dkI (fnd (fun k => P k - P x) (ks ++ new))))) b (.lst ((ls ++ new).map .int)) p = some (.dk (dkI (fnd (fun k => P k - P x) (ks ++ new)))) := by rw [up_ne hpb]; exact up_same
    by_cases c1 : x1 = here
    · rw [decide_eq_true c1]
      walk_at "wpx"
      rw [x_nkinF hB1]
      by_cases c2 : x2 ∈ ks ++ new
      · rw [decide_eq_true c2]
        walk_at "wpx"
        refine later_go ?_
        walk_at "wpx"
        exact second new (by omega) hF fun _ => c2
      · rw [decide_eq_false c2]
        walk_at "wpx"
        refine later_go ?_
        walk_at "wpx"
        rw [x_ixFd hB1 (List.mem_append_left _ hh)]
        walk_at "wpx"
        refine x_subFd hB1 c2 (by rw [List.length_append]; omega) (by subst c1; omega) ?_
        have hB2 : up (up (up A p (.dk (dkI (fnd (fun k => P k - P x) (ks ++ new))))) b (.lst ((ls ++ new).map .int))) p (.dk (dkI (fnd (fun k => P k - P x) (ks ++ new ++ [x2])))) b = some (.lst ((ls ++ new).map .int)) := by rw [up_ne hpb.symm]; exact up_same
        refine later_go ?_
        walk_at "wpx"
        rw [x_isL hB2]
        refine ⟨trivial, ?_⟩
        rw [x_app hB2]
        refine ⟨DL.size_lt (by rw [List.length_map, List.length_append]; omega), ?_⟩
        refine later_go ?_
        walk_at "wpx"
        have eB : up (up (up (up A p (.dk (dkI (fnd (fun k => P k - P x) (ks ++ new))))) b (.lst ((ls ++ new).map .int))) p (.dk (dkI (fnd (fun k => P k - P x) (ks ++ new ++ [x2]))))) b (.lst ((ls ++ new).map .int ++ [.int x2])) = up (up A p (.dk (dkI (fnd (fun k => P k - P x) (ks ++ (new ++ [x2])))))) b (.lst ((ls ++ (new ++ [x2])).map .int)) := by
          rw [up_comm hpb.symm, up_up, up_up]; simp only [List.append_assoc, List.map_append, List.map_cons, List.map_nil]
        rw [eB]
        refine second (new ++ [x2]) (by rw [List.length_append, List.length_singleton]; omega) ⟨?_, fun k hk => ?_, fun k hk => ?_, fun e he => ?_⟩ fun _ => by simp
        · rw [← List.append_assoc]
          exact List.nodup_append.mpr ⟨hF.nd, by simp, fun a ha b hb => by rw [List.mem_singleton.mp hb]; intro z; subst z; exact c2 ha⟩
        · rcases List.mem_append.mp hk with hk | hk
          · exact hF.con k hk
          · rw [List.mem_singleton.mp hk, ← c1]; exact hle.symm
        · rcases List.mem_append.mp hk with hk | hk
          · exact hF.ver k hk
          · rw [List.mem_singleton.mp hk]; exact ⟨_, hem, .inr rfl⟩
        · rw [← List.append_assoc]
          exact ⟨fun z => List.mem_append_left _ ((hF.cls e he).1 z), fun z => List.mem_append_left _ ((hF.cls e he).2 z)⟩
    · rw [decide_eq_false c1]
      walk_at "wpx"
      refine later_go ?_
      walk_at "wpx"
      exact second new (by omega) hF fun z => absurd z c1
  · rintro δ B ⟨d6, d7, d8, new, rfl, rfl, hnl, hF⟩
    rw [Nat.zero_add, List.length_map] at hF
    exact ⟨True.intro, fin new d6 d7 d8 hF⟩
theorem fl_loop {c : CallT} {P : Int → Int} (hP : ∀ e ∈ m.kept, e.2.2 = P e.2.1 - P e.1) {p b : Addr} (hpb : p ≠ b) (hzk : m.kept.length < 900) (hu : A u = some (smO s m)) (hup : u ≠ p) (hub : u ≠ b) {L : Pst} (fin : ∀ ks d5 d6 d7 d8, Fd m.kept x ks [] → L.nx (flS u x y p b d5 d6 d7 d8) (up (up A p (.dk (dkI (fnd (fun k => P k - P x) ks)))) b (.lst []))) : ∀ (r : Nat) (ks ls : List Int) (d5 d6 d7 d8 : Option D), Fd m.kept x ks ls → ls.length ≤ ks.length → 2 * (2 * m.kept.length + 1 - ks.length) + ls.length < r →
    dWhile (wpT c G (.val (.var 4))) (wpSs c G IR.Summer_follows_b2) r L (flS u x y p b d5 d6 d7 d8) (up (up A p (.dk (dkI (fnd (fun k => P k - P x) ks)))) b (.lst (ls.map .int)))
  | 0, ks, ls, d5, d6, d7, d8, h, hl, hr => by omega
  | r + 1, ks, ls, d5, d6, d7, d8, h, hl, hr => by
    have ih := fl_loop (c := c) hP hpb hzk hu hup hub fin r
    have hfew := h.few
    unfold dWhile
    walk_at "wpx"
    rw [x_truL up_same]
    rcases List.eq_nil_or_concat ls with rfl | ⟨l', here, rfl⟩
    · rw [show (!((List.map D.int []).isEmpty)) = false from rfl]
      walk_at "wpx"
      exact fin ks d5 d6 d7 d8 h
    · rw [List.concat_eq_append] at h hl hr ⊢
      rw [List.length_append, List.length_singleton] at hl hr
      rw [show (!((l' ++ [here]).map D.int).isEmpty) = true by simp]
      walk_at "wpx"
      unfold IR.Summer_follows_b2 at ih ⊢
      refine later_go ?_
      walk_at "wpx"
      have hB1 : up (up A p (.dk (dkI (fnd (fun k => P k - P x) ks)))) b (.lst ((l' ++ [here]).map .int)) b = some (.lst (l'.map .int ++ [.int here])) := by rw [up_same, List.map_append]; rfl
      rw [x_isL hB1]
      refine ⟨trivial, ?_⟩
      refine x_popL hB1 ?_
      rw [up_up]
      refine later_go ?_
      walk_at "wpx"
      have hB2 : up (up A p (.dk (dkI (fnd (fun k => P k - P x) ks)))) b (.lst (l'.map .int)) u = some (smO s m) := by rw [up_ne hub, up_ne hup]; exact hu
      rw [x_fld hB2 rfl]
      walk_at "wpx"
      refine fl_turn hP hpb (h.sub here (by simp)) (by omega) (by omega) h.nd fun new e6 e7 e8 hF => ?_
      refine later_go ?_
      walk_at "wpx"
      have hh := h.sub here (by simp)
      have hall := hF.cls
      rw [List.take_length] at hall
      have hd : Fd m.kept x (ks ++ new) (l' ++ new) := by
        refine ⟨hF.nd, List.mem_append_left _ h.fst, fun k hk => ?_, fun k hk => ?_, fun k hk => ?_, fun k hk hn e he => ?_⟩
        · rcases List.mem_append.mp hk with hk | hk
          · exact List.mem_append_left _ (h.sub k (List.mem_append_left _ hk))
          · exact List.mem_append_right _ hk
        · rcases List.mem_append.mp hk with hk | hk
          · exact h.con k hk
          · rw [hF.con k hk]; exact h.con here hh
        · rcases List.mem_append.mp hk with hk | hk
          · exact h.ver k hk
          · exact .inr (hF.ver k hk)
        · rcases List.mem_append.mp hk with hk | hk
          · by_cases c1 : k = here
            · subst c1; exact hall e he
            · have hc := h.cls k hk (fun z => by
                rcases List.mem_append.mp z with z | z
                · exact hn (List.mem_append_left _ z)
                · exact c1 (List.mem_singleton.mp z)) e he
              exact ⟨fun z => List.mem_append_left _ (hc.1 z), fun z => List.mem_append_left _ (hc.2 z)⟩
          · exact absurd (List.mem_append_right _ hk) hn
      have hfew2 := hd.few
      rw [List.length_append] at hfew2
      exact ih (ks ++ new) (l' ++ new) _ _ _ _ hd (by rw [List.length_append, List.length_append]; omega) (by rw [List.length_append, List.length_append]; omega)
theorem follows_ok (g49 : G.fn 49 = some ⟨3, 9, IR.Summer_follows⟩) (h : A u = some (smO s m)) (P : Int → Int) (hP : ∀ e ∈ m.kept, e.2.2 = P e.2.1 - P e.1) (hz : m.kept.length < 900) (q : Q (optD (if conn m.kept x y = true then some (P y - P x) else none)) A) : callN G (n + 1) 49 [.ref u, .int x, .int y] A Q E := by
  refine callN_mk g49 rfl ?_
  unfold IR.Summer_follows
  walk_at "wpx"
  rw [wq_dic]
  walk_at "wpx"
  refine ⟨(show 1 ≤ 15 by decide), ?_⟩
  intro p np
  have e0 : mergeD [] [((Sum.inl x : Key), D.int 0)] = dkI (fnd (fun k => P k - P x) [x]) := by
    show [((Sum.inl x : Key), D.int 0)] = [((Sum.inl x : Key), D.int (P x - P x))]
    rw [Int.sub_self]
  rw [e0]
  have hup := ne_free h np
  refine later_go ?_
  walk_at "wpx"
  refine ⟨by decide, ?_⟩
  intro b nb
  have hpb : p ≠ b := fun e => by subst e; rw [up_same] at nb; cases nb
  have nbA : A b = none := by rw [up_ne hpb.symm] at nb; exact nb
  have hub := ne_free h nbA
  refine later_go ?_
  walk_at "wpx"
  refine ⟨2 * (2 * m.kept.length + 1) + 2, ?_⟩
  refine fl_loop hP hpb hz h hup hub (fun ks d5 d6 d7 d8 hF => ?_) _ [x] [x] _ _ _ _ ⟨by simp, by simp, by simp, by simp, by simp, fun k hk hn => absurd hk hn⟩ (Nat.le_refl _) (by rw [List.length_singleton]; omega)
  refine later_go ?_
  walk_at "wpx"
  have hB1 : up (up A p (.dk (dkI (fnd (fun k => P k - P x) ks)))) b (.lst []) p = some (.dk (dkI (fnd (fun k => P k - P x) ks))) := by rw [up_ne hpb]; exact up_same
  rw [show tyB .get = .dict from rfl, x_isD hB1]
  refine ⟨trivial, ?_⟩
  rw [x_getFd hB1]
  refine ret_at ((DL.Sub.new np).up nbA) ?_
  have : (if y ∈ ks then some (P y - P x) else none) = if conn m.kept x y = true then some (P y - P x) else none := by simp only [hF.done y]
  rw [this]
  exact q
end
end DP

set_option Elab.async false
set_option linter.all false
set_option maxRecDepth 100000
set_option maxHeartbeats 1000000
/-! summers: what their defs do, what they keep -/
namespace DP
open DL PySem
open L2 hiding prD
/-- whether a spread has a key of a stretch -/
def tch (l : PL) (x y : Int) : Bool := l.any fun p => decide (p.1 < y) && decide (x < p.2)
theorem tch_iff {l : PL} (hl : okF 0 l) {x y : Int} (h : x < y) : tch l x y = true ↔ ∃ k, hasD l k = true ∧ x ≤ k ∧ k < y := by
  unfold tch
  rw [List.any_eq_true]
  constructor
  · rintro ⟨p, hp, h1⟩
    rw [Bool.and_eq_true, decide_eq_true_eq, decide_eq_true_eq] at h1
    have hst := okF_st hl (Int.le_refl _) p hp
    have s1 : p.1 < p.2 := hst.2.1
    by_cases c : x ≤ p.1
    · exact ⟨p.1, hasD_mem.mpr ⟨p, hp, by omega, by omega⟩, c, h1.1⟩
    · exact ⟨x, hasD_mem.mpr ⟨p, hp, by omega, by omega⟩, by omega, h⟩
  · rintro ⟨k, hk, h1, h2⟩
    obtain ⟨p, hp, h3, h4⟩ := hasD_mem.mp hk
    exact ⟨p, hp, by rw [Bool.and_eq_true, decide_eq_true_eq, decide_eq_true_eq]; omega⟩
def sumR (R : RF) (x y : Int) : Int := ((rowsF R x y).map (·.2)).sum
theorem sumR_app {R : RF} {x y z : Int} (h1 : x ≤ y) (h2 : y ≤ z) : sumR R x y + sumR R y z = sumR R x z := by
  unfold sumR
  rw [← rowsF_app h1 h2, List.map_append, List.sum_append]
theorem sumR_pot {R : RF} {x y : Int} (h0 : 0 ≤ x) (h : x ≤ y) : sumR R x y = sumR R 0 y - sumR R 0 x := by
  have := sumR_app (R := R) h0 h
  omega
theorem sumR_congr {R S : RF} {x y : Int} (h : ∀ k, x ≤ k → k < y → R k = S k) : sumR R x y = sumR S x y := by
  unfold sumR
  rw [rowsF_inj.mpr fun k _ _ h1 h2 => h k h1 h2]
def SmV.new (c : Int) : SmV := ⟨c, [], 0⟩
def SmV.stay (m : SmV) (v : SV) : List I3 := m.kept.filter fun e => !tch (spB (v.cs.drop m.heard.toNat)) e.1 e.2.1
def SmV.hear (m : SmV) (v : SV) : SmV := ⟨v.cs.length, m.stay v, m.many⟩
def SmV.add (m : SmV) (v : SV) (x y : Int) : SmV := { m with kept := sortT (m.kept ++ [(x, y, sumR v.now x y)]), many := m.many + 1 }
def SmV.asked (m : SmV) (v : SV) (x y : Int) : SmV := if conn (m.stay v) x y = true then m.hear v else (m.hear v).add v x y
def SmV.src (m : SmV) (v : SV) (x y : Int) : SV := if conn (m.stay v) x y = true then v else v.ask x y
/-- what a summer keeps is right -/
structure SOK (m : SmV) (v : SV) : Prop where
  h0 : 0 ≤ m.heard
  h1 : m.heard ≤ v.cs.length
  st : ∀ e ∈ m.kept, okSt (e.1, e.2.1)
  ok : ∀ e ∈ m.kept, e.2.2 = sumR (v.at m.heard) e.1 e.2.1
  so : m.kept.Pairwise fun p q => leT p q = true
  ac : Acyc m.kept
theorem SOK.new (v : SV) : SOK (SmV.new v.cs.length) v := ⟨Int.natCast_nonneg _, Int.le_refl _, (fun e he => by cases he), (fun e he => by cases he), .nil, .nil⟩
theorem SOK.put {m : SmV} {v : SV} (h : SOK m v) (hh : Hist v) (key : Int) (o : Option Int) : SOK m (v.put key o) := by
  refine ⟨h.h0, ?_, h.st, fun e he => ?_, h.so, h.ac⟩
  · have := h.h1
    have := put_len (v := v) (k := key) (o := o)
    omega
  · rw [at_put hh.len key o h.h0 h.h1]; exact h.ok e he
theorem SOK.asks {m : SmV} {v : SV} (h : SOK m v) (l : PL) : SOK m (v.asks l) :=
  ⟨h.h0, by rw [(asks_cs l v).1]; exact h.h1, h.st, fun e he => by rw [asks_at]; exact h.ok e he, h.so, h.ac⟩
theorem SOK.ask {m : SmV} {v : SV} (h : SOK m v) (x y : Int) : SOK m (v.ask x y) := ⟨h.h0, h.h1, h.st, h.ok, h.so, h.ac⟩
theorem SOK.hear {m : SmV} {v : SV} (h : SOK m v) (hh : Hist v) : SOK (m.hear v) v := by
  have hsub : ∀ e ∈ m.stay v, e ∈ m.kept := fun e he => (List.mem_filter.mp he).1
  refine ⟨Int.natCast_nonneg _, Int.le_refl _, fun e he => h.st e (hsub e he), fun e he => ?_, h.so.sublist List.filter_sublist, h.ac.sub List.filter_sublist⟩
  show e.2.2 = sumR (v.at v.cs.length) e.1 e.2.1
  obtain ⟨h1, h2⟩ := List.mem_filter.mp he
  rw [h.ok e h1, ← now_at hh.len]
  refine sumR_congr fun k k1 k2 => ?_
  have hst := h.st e h1
  have s0 : 0 ≤ e.1 := hst.1
  have s1 : e.1 < e.2.1 := hst.2.1
  have s2 : e.2.1 ≤ 100 := hst.2.2
  have hheard := h.h0
  have hheard2 := h.h1
  have hn : k ∉ v.cs.drop m.heard.toNat := fun hm => by
    have : tch (spB (v.cs.drop m.heard.toNat)) e.1 e.2.1 = true := (tch_iff (spB_ok _) s1).mpr ⟨k, by rw [spB_has fun z hz => hh.rg z (List.mem_of_mem_drop hz)]; exact decide_eq_true hm, k1, k2⟩
    rw [this] at h2; cases h2
  have := hh.since (k := k) (v.cs.length - m.heard.toNat) m.heard.toNat (by omega) hn
  rw [this, Int.toNat_of_nonneg h.h0]
theorem SOK.many {m : SmV} {v : SV} (h : SOK m v) (z : Int) : SOK { m with many := z } v := ⟨h.h0, h.h1, h.st, h.ok, h.so, h.ac⟩
theorem SOK.add {m : SmV} {v : SV} (h : SOK m v) (hh : Hist v) (hv : m.heard = v.cs.length) {x y : Int} (hp : okSt (x, y)) (hc : conn m.kept x y = false) : SOK (m.add v x y) v := by
  have hmem : ∀ e ∈ (m.add v x y).kept, e ∈ m.kept ∨ e = (x, y, sumR v.now x y) := fun e he => by
    have := (sortT_perm _).mem_iff.mp he
    rcases List.mem_append.mp this with h | h
    · exact .inl h
    · exact .inr (List.mem_singleton.mp h)
  refine ⟨h.h0, h.h1, fun e he => ?_, fun e he => ?_, sortT_pw _, ?_⟩
  · rcases hmem e he with h2 | rfl
    · exact h.st e h2
    · exact hp
  · rcases hmem e he with h2 | rfl
    · exact h.ok e h2
    · show sumR v.now x y = sumR (v.at m.heard) x y
      rw [hv, ← now_at hh.len]
  · refine Acyc.perm ((sortT_perm _).trans (List.perm_append_singleton _ _)) (h.ac.cons ?_)
    exact of_decide_eq_false hc
theorem SOK.asked {m : SmV} {v : SV} (h : SOK m v) (hh : Hist v) {x y : Int} (hp : okSt (x, y)) : SOK (m.asked v x y) v := by
  unfold SmV.asked
  split
  · exact h.hear hh
  · next c => exact (h.hear hh).add hh rfl hp (show conn (m.stay v) x y = false from by simpa using c)
theorem src_cs (m : SmV) (v : SV) (x y : Int) : (m.src v x y).cs = v.cs ∧ (m.src v x y).Rs = v.Rs := by unfold SmV.src; split <;> exact ⟨rfl, rfl⟩
theorem src_now (m : SmV) (v : SV) (x y : Int) : (m.src v x y).now = v.now := by unfold SV.now; rw [(src_cs m v x y).2]
theorem SOK.src {m w : SmV} {v : SV} (h : SOK m v) (x y : Int) : SOK m (w.src v x y) := by unfold SmV.src; split; exact h; exact h.ask x y
/-- few are kept: their ends are keys -/
theorem SOK.few {m : SmV} {v : SV} (h : SOK m v) : m.kept.length ≤ 100 := by
  have := DP.few (M := rgI 0 101) ((rgI_pw 0 101).imp fun h => by omega) (by decide) h.ac fun e he => by
    have hst := h.st e he
    have s0 : 0 ≤ e.1 := hst.1
    have s1 : e.1 < e.2.1 := hst.2.1
    have s2 : e.2.1 ≤ 100 := hst.2.2
    exact ⟨mem_rgI.mpr (by omega), mem_rgI.mpr (by omega)⟩
  have e : (rgI 0 101).length = 101 := by unfold rgI; rw [List.length_map, List.length_range]; rfl
  omega
theorem Src.live {A : AH} {a : SA} {v : SV} (h : Src A a v) {p : Addr} (np : A p = none) : ∀ x ∈ [a.s, a.st, a.ch], x ≠ p := fun x hx => by
  obtain ⟨kvs, e2, _⟩ := h.st
  simp only [List.mem_cons, List.not_mem_nil, or_false] at hx
  rcases hx with rfl | rfl | rfl
  · exact ne_free h.o np
  · exact ne_free e2 np
  · exact ne_free h.ch np
structure SmG (G : Gm) : Prop where
  c : ChG G
  l : LkG G
  g24 : G.fn 24 = some ⟨3, 3, IR.Source_look⟩
  m11 : Mt G 1 11 24
  g26 : G.fn 26 = some ⟨3, 3, IR.Source_ask⟩
  m2s : Mt G 1 2 26
  m4 : Mt G 1 4 30
  g22 : G.fn 22 = some ⟨1, 1, IR.Source_clock⟩
  m5 : Mt G 1 5 22
  g48 : G.fn 48 = some ⟨1, 5, IR.Summer_hear⟩
  g49 : G.fn 49 = some ⟨3, 9, IR.Summer_follows⟩
  g50 : G.fn 50 = some ⟨3, 6, IR.Summer_ask⟩
  g51 : G.fn 51 = some ⟨3, 5, IR.touches⟩
  m9 : Mt G 3 9 48
  m7 : Mt G 3 7 49
section
variable {G : Gm} {n : Nat} {A B : AH} {Q : QE} {E : XQ} {u s : Addr} {m : SmV} {x y : Int} {a : SA} {v : SV}
theorem touches_ok (g51 : G.fn 51 = some ⟨3, 5, IR.touches⟩) {l : PL} (hz : l.length < 10000) (q : Q (.bl (tch l x y)) A) : callN G (n + 1) 51 [spd l, .int x, .int y] A Q E := by
  refine callN_mk g51 rfl ?_
  unfold IR.touches
  walk_at "wpx"
  rw [show spd l = .tup (prs l) from rfl]
  walk_at "wpx"
  refine ⟨DL.size_ok (by rw [List.length_map]; omega), ?_⟩
  refine comp_of prD (fun p => .bl (decide (p.1 < y) && decide (x < p.2))) True.intro (fun p hp R r => ?_) ?_
  · rw [show prD p = .tup [.int p.1, .int p.2] from rfl]
    walk_at "wpx"
    by_cases c : p.1 < y
    · rw [decide_eq_true c] at r ⊢
      walk_at "wpx"
      exact r
    · rw [decide_eq_false c] at r ⊢
      walk_at "wpx"
      exact r
  walk_at "wgo"
  rw [show l.map (fun p => D.bl (decide (p.1 < y) && decide (x < p.2))) = (l.map fun p => decide (p.1 < y) && decide (x < p.2)).map .bl by rw [List.map_map]; rfl, x_anyF, List.any_map]
  exact ret_here q
theorem sums_ok (g46 : G.fn 46 = some ⟨1, 1, IR.Summer_sums⟩) (h : A u = some (smO s m)) (q : Q (.tup (m.kept.map triD)) A) : callN G (n + 1) 46 [.ref u] A Q E := by
  refine callN_mk g46 rfl ?_
  unfold IR.Summer_sums
  walk_at "wpx"
  rw [x_fld h rfl]
  exact ret_here q
theorem sasked_ok (g47 : G.fn 47 = some ⟨1, 1, IR.Summer_asked⟩) (h : A u = some (smO s m)) (q : Q (.int m.many) A) : callN G (n + 1) 47 [.ref u] A Q E := by
  refine callN_mk g47 rfl ?_
  unfold IR.Summer_asked
  walk_at "wpx"
  rw [x_fld h rfl]
  exact ret_here q
theorem sm_init (g45 : G.fn 45 = some ⟨2, 2, IR.Summer___init__⟩) (g22 : G.fn 22 = some ⟨1, 1, IR.Source_clock⟩) (m5 : Mt G 1 5 22) (hp : A u = none) (hs : Src A a v) (k : ∀ B, B u = some (smO a.s (SmV.new v.cs.length)) → Fr [u] A B → Q .non B) : callN G (n + 2) 45 [.ref u, .ref a.s] (up A u (.ins 3 [])) Q E := by
  have hu := hs.live hp
  refine callN_mk g45 rfl ?_
  unfold IR.Summer___init__
  walk_at "wpx"
  rw [x_put up_same (by simp)]
  rw [up_up]
  refine later_go ?_
  walk_at "wpx"
  have hs2 : Src (up A u (.ins 3 (putF' [] 0 (.ref a.s)))) a v := hs.fr (L := [u]) (Fr.refl.up (by simp)) (by simp [hu a.s (by simp)]) (by simp [hu a.st (by simp)]) (by simp [hu a.ch (by simp)])
  rw [x_meth m5 hs2.o]
  walk_at "wpx"
  refine clock_ok g22 hs2 ?_
  rw [x_put up_same (by simp [putF'])]
  rw [up_up]
  refine later_go ?_
  walk_at "wpx"
  rw [x_put up_same (by simp [putF'])]
  rw [up_up]
  refine later_go ?_
  walk_at "wpx"
  rw [x_put up_same (by simp [putF'])]
  rw [up_up]
  refine later_go ?_
  walk_at "wpx"
  exact ret_here (k _ up_same (Fr.refl.up (by simp)))
theorem shear_ok (g : SmG G) (h : A u = some (smO a.s m)) (hs : Src A a v) (hh : Hist v) (hk : SOK m v) (k : ∀ B, B u = some (smO a.s (m.hear v)) → Fr [u] A B → Q (.int (m.kept.length - (m.stay v).length)) B) : callN G (n + 4) 48 [.ref u] A Q E := by
  have hf := hk.few
  refine callN_mk g.g48 rfl ?_
  unfold IR.Summer_hear
  walk_at "wpx"
  rw [x_fld h rfl]
  walk_at "wpx"
  rw [x_meth g.m4 hs.o]
  walk_at "wpx"
  rw [x_fld h rfl]
  walk_at "wpx"
  refine changes_ok g.c hs hh.rg hk.h0 hk.h1 ?_
  have hspl := okF_len' (spB_ok (v.cs.drop m.heard.toNat))
  refine later_go ?_
  walk_at "wpx"
  rw [x_fld h rfl]
  walk_at "wpx"
  refine ⟨DL.size_ok (by rw [List.length_map]; omega), ?_⟩
  refine comp_if triD (fun e => !tch (spB (v.cs.drop m.heard.toNat)) e.1 e.2.1) triD True.intro (fun e he R1 R2 r1 r2 => ?_) ?_
  · rw [g_nm]
    walk_at "wpx"
    rw [show triD e = .tup [.int e.1, .int e.2.1, .int e.2.2] from rfl, x_ixT (atI0 _ _)]
    walk_at "wpx"
    rw [x_ixT (atI1 _ _ _)]
    walk_at "wpx"
    refine touches_ok g.g51 (by omega) ?_
    cases c : tch (spB (v.cs.drop m.heard.toNat)) e.1 e.2.1 with
    | true =>
      walk_at "wpx"
      exact r2 (by rw [c]; rfl)
    | false =>
      walk_at "wpx"
      exact r1 (by rw [c]; rfl)
  rw [show m.kept.filter (fun e => !tch (spB (v.cs.drop m.heard.toNat)) e.1 e.2.1) = m.stay v from rfl]
  walk_at "wgo"
  rw [x_fld h rfl]
  walk_at "wpx"
  rw [List.length_map, List.length_map]
  refine later_go ?_
  walk_at "wpx"
  rw [x_put h (by simp)]
  refine later_go ?_
  walk_at "wpx"
  rw [x_fld up_same rfl]
  walk_at "wpx"
  have hu : ∀ z ∈ [a.s, a.st, a.ch], z ≠ u := fun z hz e => by
    subst e
    simp only [List.mem_cons, List.not_mem_nil, or_false] at hz
    rcases hz with rfl | rfl | rfl
    · have := hs.o; rw [h] at this; injection this with this; injection this with this; cases this
    · obtain ⟨kvs, e2, _⟩ := hs.st; rw [h] at e2; cases e2
    · have := hs.ch; rw [h] at this; cases this
  have hs2 : ∀ o, Src (up A u o) a v := fun o => hs.fr (L := [u]) (Fr.refl.up (by simp)) (by simp [hu a.s (by simp)]) (by simp [hu a.st (by simp)]) (by simp [hu a.ch (by simp)])
  rw [x_meth g.m5 (hs2 _).o]
  walk_at "wpx"
  refine clock_ok g.g22 (hs2 _) ?_
  rw [x_put up_same (by simp [putF'])]
  rw [up_up]
  refine later_go ?_
  walk_at "wpx"
  exact ret_here (k _ up_same (Fr.refl.up (by simp)))
theorem x_sort3 {l : List I3} {Q : QE} : dBi .sort3 [.tup (l.map triD)] A Q = newL A ((sortT l).map triD) Q := by
  simp only [dBi, seqD]
  have : ∀ l : List I3, alls tri1 (l.map triD) = some l := fun l => by
    induction l with
    | nil => rfl
    | cons p r ih => simp only [List.map_cons, alls, ih]; rfl
  rw [this]
/-- a summer beside its source -/
theorem ap_src (h : A u = some (smO s m)) (hs : Src A a v) : ∀ z ∈ [a.s, a.st, a.ch], z ≠ u := fun z hz e => by
  subst e
  simp only [List.mem_cons, List.not_mem_nil, or_false] at hz
  rcases hz with rfl | rfl | rfl
  · have := hs.o; rw [h] at this; injection this with this; injection this with this; cases this
  · obtain ⟨kvs, e2, _⟩ := hs.st; rw [h] at e2; cases e2
  · have := hs.ch; rw [h] at this; cases this
theorem sask_ok (g : SmG G) (h : A u = some (smO a.s m)) (hs : Src A a v) (hh : Hist v) (hk : SOK m v) (hp : okSt (x, y)) (k : ∀ B, B u = some (smO a.s (m.asked v x y)) → Src B a (m.src v x y) → Fr [a.s, u] A B → Q (.int (sumR v.now x y)) B) : callN G (n + 6) 50 [.ref u, .int x, .int y] A Q E := by
  have p0 : 0 ≤ x := hp.1
  have p1 : x < y := hp.2.1
  have p2 : y ≤ 100 := hp.2.2
  refine callN_mk g.g50 rfl ?_
  unfold IR.Summer_ask
  walk_at "wpx"
  rw [x_meth g.m9 h]
  walk_at "wpx"
  refine shear_ok (n := n + 1) g h hs hh hk fun B hB f => ?_
  have hu := ap_src h hs
  have hsB : Src B a v := hs.fr f (by simp [hu a.s (by simp)]) (by simp [hu a.st (by simp)]) (by simp [hu a.ch (by simp)])
  have hkh := hk.hear hh
  have hf := hkh.few
  refine later_go ?_
  walk_at "wpx"
  rw [x_meth g.m7 hB]
  walk_at "wpx"
  have hpot : ∀ e ∈ (m.hear v).kept, e.2.2 = (fun k => sumR v.now 0 k) e.2.1 - (fun k => sumR v.now 0 k) e.1 := fun e he => by
    have hst := hkh.st e he
    have s0 : 0 ≤ e.1 := hst.1
    have s1 : e.1 < e.2.1 := hst.2.1
    have := hkh.ok e he
    rw [show (m.hear v).heard = v.cs.length from rfl, ← now_at hh.len] at this
    rw [this]
    exact sumR_pot s0 (by omega)
  refine follows_ok (n := n + 4) g.g49 hB (fun k => sumR v.now 0 k) hpot (by omega) ?_
  rw [show sumR v.now 0 y - sumR v.now 0 x = sumR v.now x y from (sumR_pot p0 (by omega)).symm]
  rw [show (m.hear v).kept = m.stay v from rfl]
  refine later_go ?_
  unfold SmV.asked SmV.src at k
  cases c : conn (m.stay v) x y with
  | true =>
    rw [c, if_pos rfl, if_pos rfl] at k
    rw [if_pos rfl]
    rw [show optD (some (sumR v.now x y)) = .int (sumR v.now x y) from rfl]
    walk_at "wpx"
    refine later_go ?_
    walk_at "wpx"
    refine later_go ?_
    walk_at "wpx"
    exact ret_here (k B hB hsB (f.mono (by simp)))
  | false =>
    rw [c, if_neg (by simp), if_neg (by simp)] at k
    rw [if_neg (by simp)]
    rw [show optD (none : Option Int) = .non from rfl]
    walk_at "wpx"
    refine later_go ?_
    walk_at "wpx"
    rw [x_fld hB rfl]
    walk_at "wpx"
    rw [x_meth g.m2s hsB.o]
    walk_at "wpx"
    refine ask_ok g.l g.g24 g.m11 g.g26 hsB fun C hC f2 => ?_
    have hCu : C u = some (smO a.s (m.hear v)) := f2.at (by simp [(hu a.s (by simp)).symm]) hB
    have hz := rowsF_len v.now x y
    walk_at "wpx"
    refine ⟨DL.size_ok (by rw [List.length_map]; omega), ?_⟩
    refine comp_of prD (fun p => .int p.2) True.intro (fun p hp R r => ?_) ?_
    · rw [show prD p = .tup [.int p.1, .int p.2] from rfl]
      walk_at "wpx"
      exact r
    walk_at "wgo"
    rw [show (rowsF v.now x y).map (fun p => D.int p.2) = ((rowsF v.now x y).map (·.2)).map .int by rw [List.map_map]; rfl, x_sumF]
    rw [show ((rowsF v.now x y).map (·.2)).sum = sumR v.now x y from rfl]
    refine later_go ?_
    walk_at "wpx"
    rw [x_fld hCu rfl]
    walk_at "wpx"
    rw [x_put hCu (by simp)]
    refine later_go ?_
    walk_at "wpx"
    rw [x_fld up_same rfl]
    walk_at "wpx"
    refine ⟨by decide, by decide, DL.size_ok (by rw [List.length_map]; omega), ?_⟩
    have es : (m.hear v).kept.map triD ++ [D.tup [.int x, .int y, .int (sumR v.now x y)]] = ((m.hear v).kept ++ [(x, y, sumR v.now x y)]).map triD := by rw [List.map_append]; rfl
    rw [es, x_sort3]
    walk_at "wgo"
    rw [x_put up_same (by simp [putF'])]
    rw [up_up]
    refine later_go ?_
    walk_at "wpx"
    refine later_go ?_
    walk_at "wpx"
    have hsE : ∀ o, Src (up C u o) a (v.ask x y) := fun o => hC.fr (L := [u]) (Fr.refl.up (by simp)) (by simp [hu a.s (by simp)]) (by simp [hu a.st (by simp)]) (by simp [hu a.ch (by simp)])
    exact ret_here (k _ up_same (hsE _) (((f.mono (by simp)).trans (f2.mono (by simp))).trans (Fr.refl.up (by simp))))
/-- a town, a source, its rows, keepers and summers of it -/
structure WM (A : AH) (t : Addr) (k : Nat) (d : Addr) (a : SA) (v : SV) (kv : PL) (qs : List (KA × KV)) (ms : List (Addr × SmV)) : Prop where
  w : WK A t k d a v kv qs
  sm : ∀ c ∈ ms, A c.1 = some (smO a.s c.2)
  sok : ∀ c ∈ ms, SOK c.2 v
  nd : (ms.map (·.1)).Nodup
  out : ∀ c ∈ ms, c.1 ∉ [t, d, a.s, a.st, a.ch]
  ap : ∀ c ∈ ms, ∀ p ∈ qs, c.1 ∉ p.1.L
variable {t d : Addr} {k k' : Nat} {kv kv' : PL} {qs qs' : List (KA × KV)} {ms : List (Addr × SmV)} {v' : SV} {i : Nat} {q : KA} {w : KV}
theorem WM.of (W : WK A t k d a v kv qs) : WM A t k d a v kv qs [] := ⟨W, (fun c h => by cases h), (fun c h => by cases h), List.nodup_nil, (fun c h => by cases h), fun c h => by cases h⟩
/-- what keepers and the source do leaves the summers -/
theorem WM.onK {L : List Addr} (M : WM A t k d a v kv qs ms) (W : WK B t k' d a v' kv' qs') (f : Fr L A B) (hL : ∀ x ∈ L, x ∈ [t, d, a.s, a.st, a.ch] ∨ ∃ p ∈ qs, x ∈ p.1.L) (hq : ∀ p ∈ qs', ∃ r ∈ qs, p.1 = r.1) (hs : ∀ m, SOK m v → SOK m v') : WM B t k' d a v' kv' qs' ms := by
  refine ⟨W, fun c hc => f.at (fun h => ?_) (M.sm c hc), fun c hc => hs _ (M.sok c hc), M.nd, M.out, fun c hc p hp => ?_⟩
  · rcases hL _ h with h | ⟨p, hp, h⟩
    · exact M.out c hc h
    · exact M.ap c hc p hp h
  · obtain ⟨r, hr, e⟩ := hq p hp
    rw [e]; exact M.ap c hc r hr
theorem WM.draw (M : WM A t k d a v kv qs ms) : WM (up A t (tw k')) t k' d a v kv qs ms :=
  M.onK (L := [t]) M.w.draw (Fr.refl.up (by simp)) (fun x hx => .inl (by rw [List.mem_singleton.mp hx]; simp)) (fun p hp => ⟨p, hp, rfl⟩) fun _ h => h
theorem set_in {w' : KV} (hi : qs[i]? = some (q, w)) : ∀ p ∈ qs.set i (q, w'), ∃ r ∈ qs, p.1 = r.1 := fun p hp => by
  rcases List.mem_or_eq_of_mem_set hp with h | rfl
  · exact ⟨p, h, rfl⟩
  · exact ⟨_, List.mem_of_getElem? hi, rfl⟩
theorem WM.kask (g : KpG G) (M : WM A t k d a v kv qs ms) (hi : qs[i]? = some (q, w)) (hp : okSt (x, y)) (c : ∀ B, WM B t k d a (v.asks ((w.hear v).plan x y)) kv (qs.set i (q, w.asked v x y)) ms → Q (spd (rowsF v.now x y)) B) : callN G (n + 7) 42 [.ref q.k, .int x, .int y] A Q E :=
  WK.kask g M.w hi hp fun B WB f => c B (M.onK WB f (fun z hz => by
    simp only [List.mem_cons, List.not_mem_nil, or_false] at hz
    rcases hz with rfl | hz
    · exact .inl (by simp)
    · exact .inr ⟨(q, w), List.mem_of_getElem? hi, by unfold KA.L; simpa using hz⟩) (set_in hi) fun m h => h.asks _)
theorem WM.change {key : Int} {o : Option Int} (M : WM A t k d a v kv qs ms) (W : WK B t k' d a (v.put key o) kv' qs) (f : Fr [t, d, a.s, a.st, a.ch] A B) : WM B t k' d a (v.put key o) kv' qs ms :=
  M.onK W f (fun x hx => .inl hx) (fun p hp => ⟨p, hp, rfl⟩) fun m h => h.put M.w.hh key o
theorem WM.live (M : WM A t k d a v kv qs ms) {p : Addr} (np : A p = none) : ∀ c ∈ ms, c.1 ≠ p := fun c hc => ne_free (M.sm c hc) np
/-- a new cell beside, or one that is changed -/
theorem WM.fr {L : List Addr} (M : WM A t k d a v kv qs ms) (f : Fr L A B) (h : ∀ x ∈ [t, d, a.s, a.st, a.ch], x ∉ L) (h2 : ∀ p ∈ qs, ∀ x ∈ p.1.L, x ∉ L) (h3 : ∀ c ∈ ms, c.1 ∉ L) : WM B t k d a v kv qs ms :=
  ⟨M.w.fr f h h2, fun c hc => f.at (h3 c hc) (M.sm c hc), M.sok, M.nd, M.out, M.ap⟩
theorem WM.new {p : Addr} {o : AO} (M : WM A t k d a v kv qs ms) (np : A p = none) : WM (up A p o) t k d a v kv qs ms :=
  M.fr (L := [p]) (Fr.refl.up (by simp)) (fun x hx => by simp [(M.w.live np).1 x hx]) (fun r hr x hx => by simp [(M.w.live np).2 r hr x hx]) fun c hc => by simp [M.live np c hc]
variable {j : Nat}
theorem sms_get (hj : ms[j]? = some (u, m)) {m' : SmV} {c : Addr × SmV} (hc : c ∈ ms.set j (u, m')) (nd : (ms.map (·.1)).Nodup) : c = (u, m') ∨ (c ∈ ms ∧ c.1 ≠ u) := by
  obtain ⟨l, hl⟩ := List.mem_iff_getElem?.mp hc
  have hjl := (List.getElem?_eq_some_iff.mp hj).1
  by_cases e : j = l
  · subst e
    rw [List.getElem?_set_self hjl] at hl
    injection hl with hl
    exact .inl hl.symm
  · rw [List.getElem?_set_ne e] at hl
    refine .inr ⟨List.mem_of_getElem? hl, fun z => e ?_⟩
    have h1 : (ms.map (·.1))[j]? = some u := by rw [List.getElem?_map, hj]; rfl
    have h2 : (ms.map (·.1))[l]? = some u := by rw [List.getElem?_map, hl, ← z]; rfl
    have hl1 := (List.getElem?_eq_some_iff.mp h1)
    have hl2 := (List.getElem?_eq_some_iff.mp h2)
    obtain ⟨b1, c1⟩ := hl1
    obtain ⟨b2, c2⟩ := hl2
    rcases Nat.lt_trichotomy j l with h | h | h
    · exact absurd (c1.trans c2.symm) (List.pairwise_iff_getElem.mp nd j l b1 b2 h)
    · exact h
    · exact absurd (c2.trans c1.symm) (List.pairwise_iff_getElem.mp nd l j b2 b1 h)
theorem set_fst (hj : ms[j]? = some (u, m)) (m' : SmV) : (ms.set j (u, m')).map (·.1) = ms.map (·.1) := by
  refine List.ext_getElem? fun l => ?_
  rw [List.getElem?_map, List.getElem?_map]
  by_cases c : j = l
  · subst c
    rw [List.getElem?_set_self (List.getElem?_eq_some_iff.mp hj).1, hj]; rfl
  · rw [List.getElem?_set_ne c]
/-- one summer is changed, and what the source was asked -/
theorem WM.one {m' : SmV} (M : WM A t k d a v kv qs ms) (hj : ms[j]? = some (u, m)) (hu : B u = some (smO a.s m')) (hs : Src B a v') (f : Fr [a.s, u] A B) (ok : SOK m' v') (e1 : v'.cs = v.cs) (e2 : v'.Rs = v.Rs) (hk : ∀ w, KOK w v → KOK w v') (hm : ∀ z, SOK z v → SOK z v') (hh : Hist v') : WM B t k d a v' kv qs (ms.set j (u, m')) := by
  have hmem := List.mem_of_getElem? hj
  have ho := M.out _ hmem
  have en : v'.now = v.now := by unfold SV.now; rw [e2]
  have ht : t ∉ [a.s, u] := fun h => by
    rcases List.mem_cons.mp h with e | h
    · exact nd_ne M.w.w2.nd 0 2 (by decide) rfl rfl e
    · exact ho (by rw [← List.mem_singleton.mp h]; simp)
  have hd : d ∉ [a.s, u] := fun h => by
    rcases List.mem_cons.mp h with e | h
    · exact nd_ne M.w.w2.nd 1 2 (by decide) rfl rfl e
    · exact ho (by rw [← List.mem_singleton.mp h]; simp)
  refine ⟨⟨⟨f.at ht M.w.w2.ht, hs, f.at hd M.w.w2.hd, by rw [en]; exact M.w.w2.r, M.w.w2.nd⟩, hh, fun p hp => (M.w.kp p hp).fr' f fun z hz h => ?_, fun p hp => hk _ (M.w.ok p hp), M.w.out, M.w.sep⟩, fun c hc => ?_, fun c hc => ?_, by rw [set_fst hj]; exact M.nd, fun c hc => ?_, fun c hc => ?_⟩
  · rcases List.mem_cons.mp h with e | h
    · exact M.w.out p hp z hz (by rw [e]; simp)
    · exact M.ap _ hmem p hp (by rw [← List.mem_singleton.mp h]; exact hz)
  · rcases sms_get hj hc M.nd with rfl | ⟨h1, h2⟩
    · exact hu
    · refine f.at (fun h => ?_) (M.sm c h1)
      rcases List.mem_cons.mp h with e | h
      · exact M.out c h1 (by rw [e]; simp)
      · exact h2 (List.mem_singleton.mp h)
  · rcases sms_get hj hc M.nd with rfl | ⟨h1, h2⟩
    · exact ok
    · exact hm _ (M.sok c h1)
  · rcases sms_get hj hc M.nd with rfl | ⟨h1, h2⟩
    · exact ho
    · exact M.out c h1
  · rcases sms_get hj hc M.nd with rfl | ⟨h1, h2⟩
    · exact fun p hp => M.ap (u, m) hmem p hp
    · exact M.ap c h1
theorem WM.sask (g : SmG G) (M : WM A t k d a v kv qs ms) (hj : ms[j]? = some (u, m)) (hp : okSt (x, y)) (c : ∀ B, WM B t k d a (m.src v x y) kv qs (ms.set j (u, m.asked v x y)) → Q (.int (sumR v.now x y)) B) : callN G (n + 6) 50 [.ref u, .int x, .int y] A Q E := by
  have hmem := List.mem_of_getElem? hj
  have ok := M.sok _ hmem
  refine sask_ok g (M.sm _ hmem) M.w.w2.src M.w.hh ok hp fun B hB hs f => c B ?_
  have hc := src_cs m v x y
  refine M.one hj hB hs f ((ok.asked M.w.hh hp).src x y) hc.1 hc.2 (fun w h => ?_) (fun z h => h.src x y) ?_
  · unfold SmV.src; split; exact h; exact h.ask x y
  · unfold SmV.src; split; exact M.w.hh; exact M.w.hh.ask x y
theorem WM.shear (g : SmG G) (M : WM A t k d a v kv qs ms) (hj : ms[j]? = some (u, m)) (c : ∀ B, WM B t k d a v kv qs (ms.set j (u, m.hear v)) → Q (.int (m.kept.length - (m.stay v).length)) B) : callN G (n + 4) 48 [.ref u] A Q E := by
  have hmem := List.mem_of_getElem? hj
  have ok := M.sok _ hmem
  have hu := ap_src (M.sm _ hmem) M.w.w2.src
  refine shear_ok g (M.sm _ hmem) M.w.w2.src M.w.hh ok fun B hB f => c B ?_
  exact M.one hj hB (M.w.w2.src.fr f (by simp [hu a.s (by simp)]) (by simp [hu a.st (by simp)]) (by simp [hu a.ch (by simp)])) (f.mono (by simp)) (ok.hear M.w.hh) rfl rfl (fun _ h => h) (fun _ h => h) M.w.hh
theorem WM.at (M : WM A t k d a v kv qs ms) (hj : ms[j]? = some (u, m)) : A u = some (smO a.s m) := M.sm _ (List.mem_of_getElem? hj)
theorem WM.ok1 (M : WM A t k d a v kv qs ms) (hj : ms[j]? = some (u, m)) : SOK m v := M.sok _ (List.mem_of_getElem? hj)
theorem WM.follows (g49 : G.fn 49 = some ⟨3, 9, IR.Summer_follows⟩) (M : WM A t k d a v kv qs ms) (hj : ms[j]? = some (u, m)) (hx : 0 ≤ x) (hy : x ≤ y) (c : Q (optD (if conn m.kept x y = true then some (sumR (v.at m.heard) x y) else none)) A) : callN G (n + 1) 49 [.ref u, .int x, .int y] A Q E := by
  have ok := M.ok1 hj
  have hf := ok.few
  refine follows_ok g49 (M.at hj) (fun k => sumR (v.at m.heard) 0 k) (fun e he => ?_) (by omega) ?_
  · have hst := ok.st e he
    have s0 : 0 ≤ e.1 := hst.1
    have s1 : e.1 < e.2.1 := hst.2.1
    rw [ok.ok e he]
    exact sumR_pot s0 (by omega)
  · rw [show sumR (v.at m.heard) 0 y - sumR (v.at m.heard) 0 x = sumR (v.at m.heard) x y from (sumR_pot hx hy).symm]
    exact c
end
end DP

set_option Elab.async false
set_option linter.all false
set_option maxRecDepth 100000
set_option maxHeartbeats 1000000
/-! what the laws of summers have in common -/
namespace DP
open DL PySem
open L2 hiding prD
/-- a sum taken by the law itself, of rows told -/
theorem sum_rows {c : CallT} {G : Gm} {tg : Tg} {δ : DSt} {A : AH} {Q : QE} {i : Nat} {R : RF} {x y : Int} (hs : ∀ p : Int × Int, ∀ K : QE, K (.int p.2) A → gAsg tg (prD p) δ A fun δ' => wpE c G (.var i) δ' A K fun _ _ => False) (q : Q (.int (sumR R x y)) A) : dComp tg (fun _ => True) (wpT c G .yes) (wpE c G (.var i)) δ ((rowsF R x y).map prD) [] A (fun x A1 => dFz x A1 fun x A1 => dBi .sum [x] A1 Q) := by
  refine comp_of prD (fun p => .int p.2) True.intro (fun p hp R r => hs p R r) ?_
  refine newL_fz ?_
  rw [show (rowsF R x y).map (fun p => D.int p.2) = ((rowsF R x y).map (·.2)).map .int by rw [List.map_map]; rfl, x_sumF]
  exact q
theorem itr_tri {n : Nat} {e : I3} : itr (n + 1) (triD e) := ⟨itr_int, itr_int, itr_int, by unfold itrs; trivial⟩
theorem triD_inj {e f : I3} (h : triD e = triD f) : e = f := by
  unfold triD at h
  injection h with h
  injection h with h1 h
  injection h with h2 h
  injection h with h3 h
  injection h1 with h1
  injection h2 with h2
  injection h3 with h3
  exact Prod.ext h1 (Prod.ext h2 h3)
theorem stay_same {m : SmV} {v : SV} (h : m.heard = v.cs.length) : m.stay v = m.kept := by
  unfold SmV.stay
  rw [h, Int.toNat_natCast, List.drop_length]
  refine List.filter_eq_self.mpr fun e _ => ?_
  have : spB [] = [] := ext_ok (spB_ok _) True.intro fun k h0 h1 => by rw [spB_has (fun k hk => by cases hk), hasD_nil]; simp
  rw [this]; rfl
theorem hear_sm {m : SmV} {v : SV} (h : m.heard = v.cs.length) : m.hear v = m := by
  unfold SmV.hear
  rw [stay_same h, ← h]
/-! marks: a dict of keys, told rising -/
def addK (ks : List Int) (k : Int) : List Int := if k ∈ ks then ks else ks ++ [k]
theorem marks_pw {ks : List Int} (nd : ks.Nodup) : (sortI ks).Pairwise (· < ·) := by
  have h1 := DP.sortI_pw ks
  have h2 : (sortI ks).Nodup := (sortI_perm ks).nodup_iff.mpr nd
  refine (List.pairwise_and_iff.mpr ⟨h1, h2⟩).imp fun h => ?_
  obtain ⟨a, b⟩ := h
  omega
/-- marks: they rise, from nought to a hundred at most -/
structure Mk (ks : List Int) : Prop where
  pw : ks.Pairwise (· < ·)
  rg : ∀ k ∈ ks, 0 ≤ k ∧ k ≤ 100
theorem Mk.st {ks : List Int} (h : Mk ks) {i j : Nat} {x y : Int} (hi : ks[i]? = some x) (hj : ks[j]? = some y) (hij : i < j) : okSt (x, y) := by
  obtain ⟨a1, b1⟩ := List.getElem?_eq_some_iff.mp hi
  obtain ⟨a2, b2⟩ := List.getElem?_eq_some_iff.mp hj
  have := List.pairwise_iff_getElem.mp h.pw i j a1 a2 hij
  rw [b1, b2] at this
  have h1 := h.rg x (List.mem_of_getElem? hi)
  have h2 := h.rg y (List.mem_of_getElem? hj)
  exact ⟨h1.1, this, h2.2⟩
theorem Mk.nd {ks : List Int} (h : Mk ks) : ks.Nodup := h.pw.imp fun h => by omega
theorem Mk.sorted {ks : List Int} (nd : ks.Nodup) (rg : ∀ k ∈ ks, 0 ≤ k ∧ k ≤ 100) : Mk (sortI ks) :=
  ⟨marks_pw nd, fun k hk => rg k ((sortI_perm ks).mem_iff.mp hk)⟩
end DP

set_option Elab.async false
set_option linter.all false
set_option maxRecDepth 100000
set_option maxHeartbeats 1000000
/-! a town, a source and summers, without the rows beside -/
namespace DP
open DL PySem
open L2 hiding prD
structure WS (A : AH) (t : Addr) (k : Nat) (a : SA) (v : SV) (ms : List (Addr × SmV)) : Prop where
  ht : A t = some (tw k)
  src : Src A a v
  hh : Hist v
  sm : ∀ c ∈ ms, A c.1 = some (smO a.s c.2)
  sok : ∀ c ∈ ms, SOK c.2 v
  nd : (ms.map (·.1)).Nodup
  out : ∀ c ∈ ms, c.1 ∉ [t, a.s, a.st, a.ch]
  na : [t, a.s, a.st, a.ch].Nodup
section
variable {G : Gm} {n : Nat} {A B : AH} {Q : QE} {E : XQ} {t u : Addr} {k k' : Nat} {m m' : SmV} {x y : Int} {a : SA} {v v' : SV} {ms : List (Addr × SmV)} {j : Nat}
theorem WS.at (M : WS A t k a v ms) (hj : ms[j]? = some (u, m)) : A u = some (smO a.s m) := M.sm _ (List.mem_of_getElem? hj)
theorem WS.ok1 (M : WS A t k a v ms) (hj : ms[j]? = some (u, m)) : SOK m v := M.sok _ (List.mem_of_getElem? hj)
theorem WS.fr {L : List Addr} (M : WS A t k a v ms) (f : Fr L A B) (h : ∀ x ∈ [t, a.s, a.st, a.ch], x ∉ L) (h3 : ∀ c ∈ ms, c.1 ∉ L) : WS B t k a v ms :=
  ⟨f.at (h t (by simp)) M.ht, M.src.fr f (h _ (by simp)) (h _ (by simp)) (h _ (by simp)), M.hh, fun c hc => f.at (h3 c hc) (M.sm c hc), M.sok, M.nd, M.out, M.na⟩
theorem WS.draw (M : WS A t k a v ms) : WS (up A t (tw k')) t k' a v ms := by
  have f : Fr [t] A (up A t (tw k')) := Fr.refl.up (by simp)
  have h := M.na
  simp only [List.nodup_cons, List.mem_cons, List.not_mem_nil, or_false, not_or] at h
  refine ⟨up_same, M.src.fr f (by simp [Ne.symm h.1.1]) (by simp [Ne.symm h.1.2.1]) (by simp [Ne.symm h.1.2.2]), M.hh, fun c hc => f.at (fun z => ?_) (M.sm c hc), M.sok, M.nd, M.out, M.na⟩
  exact M.out c hc (by rw [List.mem_singleton.mp z]; simp)
theorem WS.live (M : WS A t k a v ms) {p : Addr} (np : A p = none) : (∀ x ∈ [t, a.s, a.st, a.ch], x ≠ p) ∧ ∀ c ∈ ms, c.1 ≠ p := by
  refine ⟨fun x hx => ?_, fun c hc => ne_free (M.sm c hc) np⟩
  rcases List.mem_cons.mp hx with rfl | hx
  · exact ne_free M.ht np
  · exact M.src.live np x hx
theorem WS.new {p : Addr} {o : AO} (M : WS A t k a v ms) (np : A p = none) : WS (up A p o) t k a v ms :=
  M.fr (L := [p]) (Fr.refl.up (by simp)) (fun x hx => by simp [(M.live np).1 x hx]) fun c hc => by simp [(M.live np).2 c hc]
/-- one summer is changed, and what the source was asked -/
theorem WS.one (M : WS A t k a v ms) (hj : ms[j]? = some (u, m)) (hu : B u = some (smO a.s m')) (hs : Src B a v') (f : Fr [a.s, u] A B) (ok : SOK m' v') (hm : ∀ z, SOK z v → SOK z v') (hh : Hist v') : WS B t k a v' (ms.set j (u, m')) := by
  have hmem := List.mem_of_getElem? hj
  have ho := M.out _ hmem
  have h := M.na
  simp only [List.nodup_cons, List.mem_cons, List.not_mem_nil, or_false, not_or] at h
  have ht : t ∉ [a.s, u] := fun z => by
    rcases List.mem_cons.mp z with e | z
    · exact h.1.1 e
    · exact ho (by rw [← List.mem_singleton.mp z]; simp)
  refine ⟨f.at ht M.ht, hs, hh, fun c hc => ?_, fun c hc => ?_, by rw [set_fst hj]; exact M.nd, fun c hc => ?_, M.na⟩
  · rcases sms_get hj hc M.nd with rfl | ⟨h1, h2⟩
    · exact hu
    · refine f.at (fun h => ?_) (M.sm c h1)
      rcases List.mem_cons.mp h with e | h
      · exact M.out c h1 (by rw [e]; simp)
      · exact h2 (List.mem_singleton.mp h)
  · rcases sms_get hj hc M.nd with rfl | ⟨h1, h2⟩
    · exact ok
    · exact hm _ (M.sok c h1)
  · rcases sms_get hj hc M.nd with rfl | ⟨h1, h2⟩
    · exact ho
    · exact M.out c h1
theorem WS.sask (g : SmG G) (M : WS A t k a v ms) (hj : ms[j]? = some (u, m)) (hp : okSt (x, y)) (c : ∀ B, WS B t k a (m.src v x y) (ms.set j (u, m.asked v x y)) → Fr [a.s, u] A B → Q (.int (sumR v.now x y)) B) : callN G (n + 6) 50 [.ref u, .int x, .int y] A Q E := by
  have ok := M.ok1 hj
  refine sask_ok g (M.at hj) M.src M.hh ok hp fun B hB hs f => c B ?_ f
  refine M.one hj hB hs f ((ok.asked M.hh hp).src x y) (fun z h => h.src x y) ?_
  unfold SmV.src; split; exact M.hh; exact M.hh.ask x y
theorem WS.shear (g : SmG G) (M : WS A t k a v ms) (hj : ms[j]? = some (u, m)) (c : ∀ B, WS B t k a v (ms.set j (u, m.hear v)) → Fr [u] A B → Q (.int (m.kept.length - (m.stay v).length)) B) : callN G (n + 4) 48 [.ref u] A Q E := by
  have ok := M.ok1 hj
  have hu := ap_src (M.at hj) M.src
  refine shear_ok g (M.at hj) M.src M.hh ok fun B hB f => c B ?_ f
  exact M.one hj hB (M.src.fr f (by simp [hu a.s (by simp)]) (by simp [hu a.st (by simp)]) (by simp [hu a.ch (by simp)])) (f.mono (by simp)) (ok.hear M.hh) (fun _ h => h) M.hh
theorem WS.follows (g49 : G.fn 49 = some ⟨3, 9, IR.Summer_follows⟩) (M : WS A t k a v ms) (hj : ms[j]? = some (u, m)) (hx : 0 ≤ x) (hy : x ≤ y) (c : Q (optD (if conn m.kept x y = true then some (sumR (v.at m.heard) x y) else none)) A) : callN G (n + 1) 49 [.ref u, .int x, .int y] A Q E := by
  have ok := M.ok1 hj
  have hf := ok.few
  refine follows_ok g49 (M.at hj) (fun k => sumR (v.at m.heard) 0 k) (fun e he => ?_) (by omega) ?_
  · have hst := ok.st e he
    have s0 : 0 ≤ e.1 := hst.1
    have s1 : e.1 < e.2.1 := hst.2.1
    rw [ok.ok e he]
    exact sumR_pot s0 (by omega)
  · rw [show sumR (v.at m.heard) 0 y - sumR (v.at m.heard) 0 x = sumR (v.at m.heard) x y from (sumR_pot hx hy).symm]
    exact c
/-- a change done -/
theorem WS.chg (h119 : G.fn 119 = some ⟨2, 2, IR.law_do_change⟩) (g28 : G.fn 28 = some ⟨3, 4, IR.Source_put⟩) (g29 : G.fn 29 = some ⟨2, 3, IR.Source_drop⟩) (m17 : Mt G 1 17 28) (m6 : Mt G 1 6 29) (M : WS A t k a v ms) {c : Cg} (h0 : 0 ≤ c.1) (h1 : c.1 < 100) (hz : v.cs.length < 9999) (q : ∀ B, WS B t k a (v.put c.1 c.2) ms → Fr [a.st, a.ch] A B → Q .non B) : callN G (n + 2) 119 [.ref a.s, cgD c] A Q E := by
  refine law_do_ok h119 g28 g29 m17 m6 M.src h0 h1 hz fun B hB f => q B ?_ f
  have h := M.na
  simp only [List.nodup_cons, List.mem_cons, List.not_mem_nil, or_false, not_or] at h
  refine ⟨f.at (by simp [h.1.2.1, h.1.2.2]) M.ht, hB, M.hh.put c.2 h0 h1, fun z hz => f.at (fun q => ?_) (M.sm z hz), fun z hz => (M.sok z hz).put M.hh _ _, M.nd, M.out, M.na⟩
  simp only [List.mem_cons, List.not_mem_nil, or_false] at q
  rcases q with q | q
  · exact M.out z hz (by rw [q]; simp)
  · exact M.out z hz (by rw [q]; simp)
theorem asked_all5 {m : SmV} (hv : m.heard = v.cs.length) : (m.asked v x y).kept = (if conn m.kept x y = true then m.kept else sortT (m.kept ++ [(x, y, sumR v.now x y)])) ∧ (m.asked v x y).many = m.many + (if conn m.kept x y = true then 0 else 1) ∧ (m.asked v x y).heard = v.cs.length ∧ (m.src v x y).na = v.na + (if conn m.kept x y = true then 0 else 1) ∧ lbl (m.asked v x y).kept x = lbl (m.asked v x y).kept y := by
  unfold SmV.asked SmV.src
  rw [stay_same hv, hear_sm hv]
  split
  · next c => exact ⟨rfl, by omega, hv, by omega, of_decide_eq_true c⟩
  · exact ⟨rfl, rfl, hv, rfl, lbl_edge (e := (x, y, sumR v.now x y)) ((sortT_perm _).mem_iff.mpr (by simp))⟩
theorem ndin_F3 {e : I3} {l : List I3} {A : AH} {Q : QE} (q : Q (.bl (!decide (e ∈ l))) A) : dCmp .ndin (triD e) (.fl (l.map triD)) A Q := by
  obtain ⟨p, _, h1, _, _⟩ := eqp (A := A) 6 (triD e) (triD e) itr_tri itr_tri
  suffices ∀ l : List I3, ∃ ps, pds (pd A 6) (l.map triD) = some ps ∧ (ps.any (fun q => PyData.eqv q p) = true ↔ e ∈ l) by
    obtain ⟨ps, h2, h3⟩ := this l
    simp only [dCmp, seq_fl, h1, h2]
    have : ps.any (fun q => PyData.eqv q p) = decide (e ∈ l) := by rw [Bool.eq_iff_iff, h3, decide_eq_true_eq]
    rw [this]; exact q
  intro l
  induction l with
  | nil => exact ⟨[], rfl, by simp⟩
  | cons d ds ih =>
    obtain ⟨ps, h2, h3⟩ := ih
    obtain ⟨q, p', g1, g2, g3⟩ := eqp (A := A) 6 (triD d) (triD e) itr_tri itr_tri
    rw [h1] at g2; injection g2 with g2; subst g2
    refine ⟨q :: ps, by simp only [List.map_cons, pds, g1, h2], ?_⟩
    rw [List.any_cons, Bool.or_eq_true, h3, g3, List.mem_cons]
    constructor
    · rintro (h | h)
      · exact .inl (triD_inj h).symm
      · exact .inr h
    · rintro (h | h)
      · exact .inl (by rw [h])
      · exact .inr h
end
end DP

set_option Elab.async false
set_option linter.all false
set_option maxRecDepth 100000
set_option maxHeartbeats 1000000
/-! pages, and what they leave alone; a source, keepers and a summer -/
namespace DP
open DL PySem
open L2 hiding prD
section
variable {G : Gm} {n : Nat} {A B : AH} {Q : QE} {E : XQ} {t : Addr} {k k' : Nat} {a : SA} {v v' : SV} {qs : List (KA × KV)} {q p : KA} {w u : KV} {x y : Int} {i j : Nat}
theorem page_loopF {A0 : AH} (g : KpG G) (m2k : Mt G 2 2 42) (hi : i < qs.length) (x0 : 0 ≤ x) (x1 : x < 100) {many : Int} {P : Pst} (fin : ∀ m B, pgE v.now x many m → WQ B t k a (pgS w v x m).2 (qs.set i (q, (pgS w v x m).1)) → Fr [a.s, q.k, q.kt, q.kr] A0 B → P.nx [some (.ref q.k), some (.int x), some (.int many), some (spd (rowsF v.now x (pgH x m))), some (.int (pgH x m))] B) : ∀ (r j : Nat) (B : AH), r + j = 14 → (∀ l, l < j → pgH x l < 100 ∧ ((rowsF v.now x (pgH x l)).length : Int) < many) → WQ B t k a (pgS w v x j).2 (qs.set i (q, (pgS w v x j).1)) → Fr [a.s, q.k, q.kt, q.kr] A0 B →
    dWhile (wpT (callN G (n + 7)) G (.and (.val (.cmp .lt (.var 4) (.cst (.int 100)))) (.val (.cmp .lt (.bi .len [(.var 3)]) (.var 2))))) (wpSs (callN G (n + 7)) G IR.Keeper_page_b1) r P [some (.ref q.k), some (.int x), some (.int many), some (spd (rowsF v.now x (pgH x j))), some (.int (pgH x j))] B
  | 0, j, B, hr, hb, W, fB => by
    exfalso
    have := (hb 13 (by omega)).1
    unfold pgH at this
    split at this <;> omega
  | r + 1, j, B, hr, hb, W, fB => by
    have ih := page_loopF g m2k hi x0 x1 fin r (j + 1)
    obtain ⟨e1, e2, e3⟩ := pgS_v w v x j
    unfold dWhile
    walk_at "wpx"
    cases c1 : decide (pgH x j < 100) with
    | false =>
      walk_at "wpx"
      have : pgH x j = 100 := by
        have := of_decide_eq_false c1
        unfold pgH at this ⊢
        split <;> simp_all
      exact fin j B ⟨hb, .inl this⟩ W fB
    | true =>
      have c1 := of_decide_eq_true c1
      walk_at "wpx"
      rw [List.length_map]
      cases c2 : decide (((rowsF v.now x (pgH x j)).length : Int) < many) with
      | false =>
        walk_at "wpx"
        have := of_decide_eq_false c2
        exact fin j B ⟨hb, .inr (by omega)⟩ W fB
      | true =>
        have c2 := of_decide_eq_true c2
        have hs := pgH_step c1
        have hl := pgH_lt c1
        have h0 := pgH_ge x0 (j := j)
        have hg : (qs.set i (q, (pgS w v x j).1))[i]? = some (q, (pgS w v x j).1) := List.getElem?_set_self hi
        walk_at "wpx"
        unfold IR.Keeper_page_b1 at ih ⊢
        refine later_go ?_
        walk_at "wpx"
        rw [x_meth m2k (W.kp1 hg).o]
        walk_at "wpx"
        rw [hs]
        refine WQ.kask g W hg (x := pgH x j) (y := pgH x (j + 1)) ⟨h0, hl.1, hl.2⟩ fun C WC f => ?_
        rw [List.set_set] at WC
        walk_at "wpx"
        rw [e1]
        have hz1 := rowsF_len v.now x (pgH x j)
        have hz2 := rowsF_len v.now (pgH x j) (pgH x (j + 1))
        refine ⟨DL.size_ok (by rw [List.length_map, List.length_map]; omega), ?_⟩
        have hxx : x ≤ pgH x j := by unfold pgH; split <;> omega
        rw [spd_app, rowsF_app hxx (by omega)]
        refine later_go ?_
        walk_at "wpx"
        rw [hs]
        refine ih C (by omega) (fun l hl2 => ?_) WC (fB.trans f)
        by_cases c : l = j
        · subst c; exact ⟨c1, c2⟩
        · exact hb l (by omega)
theorem WQ.kpageF (g : KpG G) (m2k : Mt G 2 2 42) (g43 : G.fn 43 = some ⟨3, 5, IR.Keeper_page⟩) (W : WQ A t k a v qs) (hi : qs[i]? = some (q, w)) (x0 : 0 ≤ x) (x1 : x < 100) {many : Int} (hm : 0 ≤ many) (c : ∀ m B, pgE v.now x many m → WQ B t k a (pgS w v x m).2 (qs.set i (q, (pgS w v x m).1)) → Fr [a.s, q.k, q.kt, q.kr] A B → Q (.tup [spd ((rowsF v.now x 100).take many.toNat), optD (pgK (rowsF v.now x 100) x many)]) B) : callN G (n + 8) 43 [.ref q.k, .int x, .int many] A Q E := by
  have hil := (List.getElem?_eq_some_iff.mp hi).1
  have hset : qs.set i (q, w) = qs := by
    refine List.ext_getElem? fun j => ?_
    by_cases c : i = j
    · subst c; rw [List.getElem?_set_self hil, hi]
    · rw [List.getElem?_set_ne c]
  refine callN_mk g43 rfl ?_
  have tail : ∀ (m : Nat) (B : AH), pgE v.now x many m → WQ B t k a (pgS w v x m).2 (qs.set i (q, (pgS w v x m).1)) → Fr [a.s, q.k, q.kt, q.kr] A B → later (callN G (n + 7)) G (IR.Keeper_page.drop 3) (endP Q E) [some (.ref q.k), some (.int x), some (.int many), some (spd (rowsF v.now x (pgH x m))), some (.int (pgH x m))] B := by
    intro m B hE WB fB
    have hc := c m B hE WB fB
    have hxx : x ≤ pgH x m := by unfold pgH; split <;> omega
    have hle : pgH x m ≤ 100 := by unfold pgH; split <;> omega
    have eapp := rowsF_app (R := v.now) hxx hle
    refine later_go ?_
    unfold IR.Keeper_page
    simp only [List.drop_succ_cons, List.drop_zero]
    walk_at "wpx"
    rw [List.length_map]
    cases cl : decide (many ≤ ((rowsF v.now x (pgH x m)).length : Int)) with
    | false =>
      have cl := of_decide_eq_false cl
      have h100 : pgH x m = 100 := hE.2.resolve_right cl
      rw [h100] at cl ⊢
      have hk : pgK (rowsF v.now x 100) x many = none := by unfold pgK; rw [if_pos (by omega)]
      rw [hk, List.take_of_length_le (by omega)] at hc
      walk_at "wgo"
      rw [decide_eq_true (by omega : (100 : Int) ≤ 100)]
      walk_at "wgo"
      exact ret_here hc
    | true =>
      have cl := of_decide_eq_true cl
      obtain ⟨mn, rfl⟩ := Int.eq_ofNat_of_zero_le hm
      have ht : (rowsF v.now x 100).take mn = (rowsF v.now x (pgH x m)).take mn := by
        rw [← eapp, List.take_append_of_le_length (by omega)]
      rw [Int.toNat_natCast] at hc
      have hk : pgK (rowsF v.now x 100) x mn = if lastK ((rowsF v.now x (pgH x m)).take mn) x ≥ 100 then none else some (lastK ((rowsF v.now x (pgH x m)).take mn) x) := by
        unfold pgK
        have hlen : (rowsF v.now x (pgH x m)).length ≤ (rowsF v.now x 100).length := by rw [← eapp, List.length_append]; omega
        rw [if_neg (by omega), Int.toNat_natCast, ht]
      rw [hk, ht] at hc
      walk_at "wgo"
      rw [cut_to', show ((rowsF v.now x (pgH x m)).map prD).take mn = prs ((rowsF v.now x (pgH x m)).take mn) by rw [prs, List.map_take]]
      generalize (rowsF v.now x (pgH x m)).take mn = L at hc ⊢
      rcases List.eq_nil_or_concat L with rfl | ⟨L', p, rfl⟩
      · walk_at "wgo"
        rw [show (!([] : List D).isEmpty) = false from rfl]
        walk_at "wgo"
        rw [decide_eq_false (by omega : ¬ (100 : Int) ≤ x)]
        walk_at "wgo"
        have e : lastK [] x = x := rfl
        rw [e, if_neg (by omega)] at hc
        exact ret_here hc
      · rw [List.concat_eq_append] at hc ⊢
        have e : lastK (L' ++ [p]) x = p.1 + 1 := by unfold lastK; rw [List.getLast?_append]; rfl
        rw [e] at hc
        walk_at "wgo"
        rw [show (!(prs (L' ++ [p])).isEmpty) = true by simp [prs]]
        walk_at "wgo"
        rw [x_ixT (show L2.atI (prs (L' ++ [p])) (-1) = some (prD p) by rw [prs, List.map_append]; exact atI_last _ _)]
        rw [show prD p = .tup [.int p.1, .int p.2] from rfl, x_ixT (atI0 _ _)]
        walk_at "wgo"
        cases c3 : decide (100 ≤ p.1 + 1) with
        | true =>
          rw [if_pos (of_decide_eq_true c3)] at hc
          walk_at "wgo"
          exact ret_here hc
        | false =>
          rw [if_neg (of_decide_eq_false c3)] at hc
          walk_at "wgo"
          exact ret_here hc
  generalize hrs : IR.Keeper_page.drop 3 = rs at tail
  unfold IR.Keeper_page at hrs ⊢
  simp only [List.drop_succ_cons, List.drop_zero] at hrs
  rw [hrs]
  walk_at "wgo"
  refine ⟨14, ?_⟩
  have hx0 : pgH x 0 = x := by unfold pgH; rw [if_pos (by omega)]; omega
  have e0 : D.tup [] = spd (rowsF v.now x (pgH x 0)) := by rw [hx0, rowsF_nil (Int.le_refl _)]; rfl
  have := page_loopF (A0 := A) (n := n) (P := ⟨fun δ' A' => later (callN G (n + 7)) G rs (endP Q E) δ' A', (endP Q E).rt, (endP Q E).ct, (endP Q E).ex⟩) (w := w) (v := v) (k := k) (t := t) (a := a) (many := many) g m2k hil x0 x1 (fun m B hE WB fB => tail m B hE WB fB) 14 0 A rfl (fun l hl => by omega) (by show WQ A t k a v (qs.set i (q, w)); rw [hset]; exact W) Fr.refl
  rw [← e0, hx0] at this
  exact this
end
/-- a source, its keepers, its summer -/
structure WT (A : AH) (t : Addr) (k : Nat) (a : SA) (v : SV) (qs : List (KA × KV)) (u : Addr) (m : SmV) : Prop where
  W : WQ A t k a v qs
  su : A u = some (smO a.s m)
  so : SOK m v
  ou : u ∉ [t, a.s, a.st, a.ch]
  oq : ∀ q ∈ qs, u ∉ q.1.L
/-- its cells -/
def cT (a : SA) (qs : List (KA × KV)) (u z : Addr) : Prop := z ∈ [a.s, a.st, a.ch, u] ∨ ∃ q ∈ qs, z ∈ q.1.L
section
variable {G : Gm} {n : Nat} {A B : AH} {Q : QE} {E : XQ} {t u : Addr} {k k' : Nat} {a : SA} {v v' : SV} {qs : List (KA × KV)} {q : KA} {w w' : KV} {x y : Int} {i : Nat} {m m' : SmV}
theorem WT.draw (T : WT A t k a v qs u m) : WT (up A t (tw k')) t k' a v qs u m :=
  ⟨T.W.draw, by rw [up_ne (fun e => T.ou (by rw [e]; simp))]; exact T.su, T.so, T.ou, T.oq⟩
/-- something beside -/
theorem WT.fr {L : List Addr} (T : WT A t k a v qs u m) (f : Fr L A B) (ht : t ∉ L) (h : ∀ z ∈ L, ¬ cT a qs u z) : WT B t k a v qs u m := by
  refine ⟨T.W.fr f (fun z hz hl => ?_) fun p hp z hz hl => h z hl (.inr ⟨p, hp, hz⟩), f.at (fun hl => h u hl (.inl (by simp))) T.su, T.so, T.ou, T.oq⟩
  rcases List.mem_cons.mp hz with rfl | hz
  · exact ht hl
  · exact h z hl (.inl (by
      simp only [List.mem_cons, List.not_mem_nil, or_false] at hz ⊢
      rcases hz with h | h | h <;> simp [h]))
/-- a keeper is changed -/
theorem WT.keep {L : List Addr} (T : WT A t k a v qs u m) (hi : qs[i]? = some (q, w)) (W : WQ B t k a v' (qs.set i (q, w'))) (f : Fr L A B) (hL : ∀ z ∈ L, z ∈ [a.s, q.k, q.kt, q.kr]) (ok : SOK m v') : WT B t k a v' (qs.set i (q, w')) u m := by
  have hm := List.mem_of_getElem? hi
  refine ⟨W, f.at (fun h => ?_) T.su, ok, T.ou, fun p hp => ?_⟩
  · rcases List.mem_cons.mp (hL _ h) with e | h2
    · exact T.ou (by rw [e]; simp)
    · exact T.oq _ hm h2
  · rcases List.mem_or_eq_of_mem_set hp with hp | rfl
    · exact T.oq p hp
    · exact T.oq (q, w) hm
theorem WT.kask (g : KpG G) (T : WT A t k a v qs u m) (hi : qs[i]? = some (q, w)) (hp : okSt (x, y)) (c : ∀ B, WT B t k a (v.asks ((w.hear v).plan x y)) (qs.set i (q, w.asked v x y)) u m → Fr [a.s, q.k, q.kt, q.kr] A B → Q (spd (rowsF v.now x y)) B) : callN G (n + 7) 42 [.ref q.k, .int x, .int y] A Q E :=
  T.W.kask g hi hp fun B W f => c B (T.keep hi W f (fun z hz => hz) (T.so.asks _)) f
theorem pgS_asks (w : KV) (v : SV) (x : Int) (h : SOK m v) : ∀ j, SOK m (pgS w v x j).2
  | 0 => h
  | j + 1 => (pgS_asks w v x h j).asks _
theorem WT.kpage (g : KpG G) (m2k : Mt G 2 2 42) (g43 : G.fn 43 = some ⟨3, 5, IR.Keeper_page⟩) (T : WT A t k a v qs u m) (hi : qs[i]? = some (q, w)) (x0 : 0 ≤ x) (x1 : x < 100) {many : Int} (hm : 0 ≤ many) (c : ∀ j B, pgE v.now x many j → WT B t k a (pgS w v x j).2 (qs.set i (q, (pgS w v x j).1)) u m → Fr [a.s, q.k, q.kt, q.kr] A B → Q (.tup [spd ((rowsF v.now x 100).take many.toNat), optD (pgK (rowsF v.now x 100) x many)]) B) : callN G (n + 8) 43 [.ref q.k, .int x, .int many] A Q E :=
  T.W.kpageF g m2k g43 hi x0 x1 hm fun j B hE W f => c j B hE (T.keep hi W f (fun z hz => hz) (pgS_asks w v x T.so j)) f
theorem WT.ws (T : WT A t k a v qs u m) : WS A t k a v [(u, m)] :=
  ⟨T.W.ht, T.W.src, T.W.hh, fun c hc => by rw [List.mem_singleton.mp hc]; exact T.su, fun c hc => by rw [List.mem_singleton.mp hc]; exact T.so, by simp, fun c hc => by rw [List.mem_singleton.mp hc]; exact T.ou, T.W.na⟩
/-- the source, the summer are changed -/
theorem WT.onS {L : List Addr} (T : WT A t k a v qs u m) (S : WS B t k a v' [(u, m')]) (f : Fr L A B) (hL : ∀ z ∈ L, z ∈ [a.s, a.st, a.ch, u]) (hk : ∀ w, KOK w v → KOK w v') : WT B t k a v' qs u m' := by
  refine ⟨⟨S.ht, S.src, S.hh, T.W.na, fun p hp => (T.W.kp p hp).fr' f fun z hz h => ?_, fun p hp => hk _ (T.W.ok p hp), T.W.out, T.W.sep⟩, S.sm _ List.mem_cons_self, S.sok _ List.mem_cons_self, T.ou, T.oq⟩
  have := hL z h
  simp only [List.mem_cons, List.not_mem_nil, or_false] at this
  rcases this with e | e | e | e
  · exact T.W.out p hp z hz (by simp [e])
  · exact T.W.out p hp z hz (by simp [e])
  · exact T.W.out p hp z hz (by simp [e])
  · exact T.oq p hp (by rw [← e]; exact hz)
theorem WT.sask (g : SmG G) (T : WT A t k a v qs u m) (hp : okSt (x, y)) (c : ∀ B, WT B t k a (m.src v x y) qs u (m.asked v x y) → Fr [a.s, u] A B → Q (.int (sumR v.now x y)) B) : callN G (n + 6) 50 [.ref u, .int x, .int y] A Q E :=
  T.ws.sask g (j := 0) rfl hp fun B S f => c B (T.onS S f (fun z hz => by simp only [List.mem_cons, List.not_mem_nil, or_false] at hz ⊢; rcases hz with h | h <;> simp [h]) fun w h => by
    unfold SmV.src
    split
    · exact h
    · exact h.ask x y) f
theorem WT.shear (g : SmG G) (T : WT A t k a v qs u m) (c : ∀ B, WT B t k a v qs u (m.hear v) → Fr [u] A B → Q (.int (m.kept.length - (m.stay v).length)) B) : callN G (n + 4) 48 [.ref u] A Q E :=
  T.ws.shear g (j := 0) rfl fun B S f => c B (T.onS S f (fun z hz => by rw [List.mem_singleton.mp hz]; simp) fun w h => h) f
theorem WT.chg (h119 : G.fn 119 = some ⟨2, 2, IR.law_do_change⟩) (g28 : G.fn 28 = some ⟨3, 4, IR.Source_put⟩) (g29 : G.fn 29 = some ⟨2, 3, IR.Source_drop⟩) (m17 : Mt G 1 17 28) (m6 : Mt G 1 6 29) (T : WT A t k a v qs u m) {c : Cg} (h0 : 0 ≤ c.1) (h1 : c.1 < 100) (hz : v.cs.length < 9999) (q : ∀ B, WT B t k a (v.put c.1 c.2) qs u m → Fr [a.st, a.ch] A B → Q .non B) : callN G (n + 2) 119 [.ref a.s, cgD c] A Q E :=
  T.ws.chg h119 g28 g29 m17 m6 h0 h1 hz fun B S f => q B (T.onS S f (fun z hz => by simp only [List.mem_cons, List.not_mem_nil, or_false] at hz ⊢; rcases hz with h | h <;> simp [h]) fun w h => h.put T.W.hh c.1 c.2) f
end
end DP

set_option Elab.async false
set_option linter.all false
set_option maxRecDepth 100000
set_option maxHeartbeats 1000000
/-! spreads shown; the same of the same, by what it is -/
namespace DP
open DL PySem
open L2 hiding prD
/-! ### equal things, texts among them -/
/-! ### repr of two spreads -/
def pdP (p : Int × Int) : PyData := .tuple [.int p.1, .int p.2]
def pdL (l : PL) : PyData := .tuple (l.map pdP)
def sayR (l m : PL) : Str := (PyData.tuple [pdL l, pdL m]).shown
/-! ### one deed of the source -/
section
variable {G : Gm} {n : Nat} {A B : AH} {Q : QE} {E : XQ} {t u : Addr} {k k' : Nat} {a : SA} {v : SV} {qs : List (KA × DP.KV)} {m : SmV}
end
end DP

set_option Elab.async false
set_option linter.all false
set_option maxRecDepth 100000
set_option maxHeartbeats 4000000
/-! the law law_k40_whole_rows_and_sums: its table, and what ties it to the row -/
namespace Lk40
open DL PySem PySem.Spec PyProof.Rows
open L2 hiding prD
def topS (i : Nat) : Stmt := PySem.Challenge.pw_keptranges_k40_whole_rows_and_sums.main.body.getD i (.Pass ⟨0, 0, 0, 0⟩)
def ir_law_paged_b1 : List IS := [(.tset (.tp [(.nm 5), (.nm 4)]) (.meth 14 (.var 0) [(.var 4), (.cst (.int 3))])),
  (.set 3 (.bin .add (.var 3) (.bi .sum [(.fz (.comp .seq [(.var 5)] [6, 7] (.tp [(.nm 6), (.nm 7)]) (.val (.cmp .lt (.var 6) (.var 2))) (.var 7)))])))]
def ir_law_paged : List IS := [(.par [3, 4] [(.cst (.int 0)), (.var 1)]),
  (.whil (.and (.val (.isn true (.var 4))) (.val (.cmp .lt (.var 4) (.var 2)))) ir_law_paged_b1),
  (.ret (.var 3))]
def ir_law_kept_stands_b1 : List IS := [(.iff (.val (.tnin (.tup [(.var 3), (.var 4)]) (.var 1))) [(.ret (.cst (.bl false)))] []),
  (.set 6 (.wk (.meth 12 (.var 0) [(.ixt (.var 1) (.tup [(.var 3), (.var 4)])), (.var 3), (.var 4)]))),
  (.iff (.or (.val (.cmp .ne (.var 6) (.wk (.meth 11 (.var 0) [(.var 3), (.var 4)])))) (.val (.cmp .ne (.bi .sum [(.fz (.comp .seq [(.var 6)] [7, 8] (.tp [(.nm 7), (.nm 8)]) .yes (.var 8)))]) (.var 5)))) [(.ret (.cst (.bl false)))] [])]
def ir_law_kept_stands : List IS := [(.for .seq [(.var 2)] (.tp [(.nm 3), (.nm 4), (.nm 5)]) ir_law_kept_stands_b1),
  (.ret (.cst (.bl true)))]
def ir_law_b1 : List IS := [(.expr (.call 117 [(.var 0), (.var 1), (.var 4), (.var 3)]))]
def ir_law_b2 : List IS := [(.iff (.val (.cmp .ndin (.var 16) (.var 12))) [(.subt (.var 7) (.cutk (.var 16) 2) (.meth 5 (.var 4) []))] [])]
def ir_law_b3 : List IS := [(.iff (.val (.isn true (.call 53 [(.var 4), (.ixt (.var 7) (.cutk (.var 16) 2)), (.ix (.var 16) (.cst (.int 0))), (.ix (.var 16) (.cst (.int 1)))]))) [(.ret (.cst (.bl false)))] [])]
def ir_law_b4 : List IS := [(.for .rng [(.call 103 [(.var 0), (.var 1), (.fz (.lst [(.cst (.int 0)), (.cst (.int 0)), (.cst (.int 1)), (.cst (.int 2))]))])] (.nm 9) ir_law_b1),
  (.tset (.tp [(.nm 10), (.nm 11)]) (.call 108 [(.var 0), (.var 1)])),
  (.expr (.meth 9 (.var 6) [])),
  (.par [12, 13] [(.meth 20 (.var 6) []), (.ix (.meth 22 (.var 4) []) (.cst (.int 0)))]),
  (.set 14 (.meth 3 (.var 6) [])),
  (.set 15 (.meth 2 (.var 6) [(.var 10), (.var 11)])),
  (.iff (.val (.cmp .ne (.bin .sub (.ix (.meth 22 (.var 4) []) (.cst (.int 0))) (.var 13)) (.bin .sub (.meth 3 (.var 6) []) (.var 14)))) [(.ret (.cst (.bl false)))] []),
  (.iff (.val (.cmp .ne (.var 15) (.bi .sum [(.fz (.comp .seq [(.meth 2 (.var 5) [(.var 10), (.var 11)])] [17, 18] (.tp [(.nm 17), (.nm 18)]) .yes (.var 18)))]))) [(.ret (.cst (.bl false)))] []),
  (.iff (.val (.cmp .ne (.var 15) (.call 187 [(.var 5), (.var 10), (.var 11)]))) [(.ret (.cst (.bl false)))] []),
  (.for .seq [(.meth 20 (.var 6) [])] (.nm 16) ir_law_b2),
  (.iff (.not (.val (.call 188 [(.var 4), (.var 7), (.meth 20 (.var 6) [])]))) [(.ret (.cst (.bl false)))] []),
  (.for .seq [(.meth 20 (.var 6) [])] (.nm 16) ir_law_b3)]
def ir_law_b5 : List IS := [(.set 3 (.call 115 [(.var 0), (.var 1)])),
  (.set 4 (.make 1 [(.ptl (.fz (.bi .sitems [(.var 3)])))])),
  (.par [5, 6, 7] [(.make 2 [(.var 4), (.call 103 [(.var 0), (.var 1), (.fz (.lst [(.cst (.int 100)), (.cst (.int 30)), (.cst (.int 5))]))]), (.cst (.int 4))]), (.make 3 [(.var 4)]), (.bi .dnt [])]),
  (.for .rng [(.cst (.int 14))] (.nm 8) ir_law_b4)]
def ir_law : List IS := [(.set 1 (.lst [])),
  (.for .rng [(.cst (.int 3))] (.nm 2) ir_law_b5),
  (.ret (.cst (.bl true)))]
def tbl : List (Nat × FnD) := [(45, ⟨2, 2, IR.Summer___init__⟩), (46, ⟨1, 1, IR.Summer_sums⟩), (47, ⟨1, 1, IR.Summer_asked⟩), (48, ⟨1, 5, IR.Summer_hear⟩), (49, ⟨3, 9, IR.Summer_follows⟩), (50, ⟨3, 6, IR.Summer_ask⟩), (51, ⟨3, 5, IR.touches⟩), (53, ⟨4, 6, IR.holds_to⟩), (4, ⟨1, 4, IR.spread_of⟩), (5, ⟨1, 2, IR.spread_by⟩), (8, ⟨1, 4, IR.keys_of⟩), (10, ⟨2, 7, IR.met⟩), (11, ⟨3, 7, IR.turned_out⟩), (14, ⟨3, 3, IR.lacking⟩), (17, ⟨2, 5, IR.asks⟩), (33, ⟨4, 4, IR.Keeper___init__⟩), (34, ⟨1, 1, IR.Keeper_known⟩), (35, ⟨2, 3, IR.Keeper_forget⟩), (36, ⟨1, 2, IR.Keeper_hear⟩), (37, ⟨4, 6, IR.Keeper_take⟩), (38, ⟨1, 4, IR.Keeper_shrink⟩), (39, ⟨3, 4, IR.Keeper_told⟩), (41, ⟨3, 3, IR.Keeper_plan⟩), (42, ⟨3, 7, IR.Keeper_ask⟩), (43, ⟨3, 5, IR.Keeper_page⟩), (21, ⟨2, 2, IR.Source___init__⟩), (22, ⟨1, 1, IR.Source_clock⟩), (23, ⟨2, 2, IR.Source_need⟩), (24, ⟨3, 3, IR.Source_look⟩), (25, ⟨4, 6, IR.Source_look_at⟩), (26, ⟨3, 3, IR.Source_ask⟩), (27, ⟨1, 1, IR.Source_told⟩), (28, ⟨3, 4, IR.Source_put⟩), (29, ⟨2, 3, IR.Source_drop⟩), (30, ⟨2, 2, IR.Source_changes_since⟩), (102, ⟨3, 7, IR.law_draw_k18⟩), (103, ⟨3, 3, IR.law_pick⟩), (115, ⟨2, 4, IR.law_rows_k22⟩), (108, ⟨2, 3, IR.law_window_k22⟩), (117, ⟨4, 5, IR.law_change_k22⟩), (187, ⟨3, 8, ir_law_paged⟩), (188, ⟨3, 9, ir_law_kept_stands⟩), (112, ⟨1, 19, ir_law⟩)]
def clt : List (Nat × ClD) := [(1, ⟨4, 21, [(5, 22), (13, 23), (11, 24), (12, 25), (2, 26), (22, 27), (17, 28), (6, 29), (4, 30)]⟩), (2, ⟨7, 33, [(10, 34), (8, 35), (9, 36), (21, 37), (19, 38), (22, 39), (16, 41), (2, 42), (14, 43)]⟩), (3, ⟨4, 45, [(20, 46), (3, 47), (9, 48), (7, 49), (2, 50)]⟩)]
def gm : Gm := ⟨fun f => tbl.lookup f, fun c => clt.lookup c⟩
abbrev s_Summer___init__ : Stmt := inClass (topS 2) 0
abbrev n_Summer___init__ : List Str := ["self", "source"]
theorem sc_Summer___init__ : FnScope n_Summer___init__ ["self", "source"] (defScope s_Summer___init__) := ⟨rfl, rfl, rfl, by decide +kernel, rfl, by decide +kernel, by decide +kernel⟩
abbrev s_Summer_sums : Stmt := inClass (topS 2) 1
abbrev n_Summer_sums : List Str := ["self"]
theorem sc_Summer_sums : FnScope n_Summer_sums ["self"] (defScope s_Summer_sums) := ⟨rfl, rfl, rfl, by decide +kernel, rfl, by decide +kernel, by decide +kernel⟩
abbrev s_Summer_asked : Stmt := inClass (topS 2) 2
abbrev n_Summer_asked : List Str := ["self"]
theorem sc_Summer_asked : FnScope n_Summer_asked ["self"] (defScope s_Summer_asked) := ⟨rfl, rfl, rfl, by decide +kernel, rfl, by decide +kernel, by decide +kernel⟩
abbrev s_Summer_hear : Stmt := inClass (topS 2) 3
abbrev n_Summer_hear : List Str := ["self", "old", "kept", "many", "one"]
theorem sc_Summer_hear : FnScope n_Summer_hear ["self"] (defScope s_Summer_hear) := ⟨rfl, rfl, rfl, by decide +kernel, rfl, by decide +kernel, by decide +kernel⟩
abbrev s_Summer_follows : Stmt := inClass (topS 2) 4
abbrev n_Summer_follows : List Str := ["self", "first", "last", "found", "left", "here", "start", "end", "total"]
theorem sc_Summer_follows : FnScope n_Summer_follows ["self", "first", "last"] (defScope s_Summer_follows) := ⟨rfl, rfl, rfl, by decide +kernel, rfl, by decide +kernel, by decide +kernel⟩
abbrev s_Summer_ask : Stmt := inClass (topS 2) 5
abbrev n_Summer_ask : List Str := ["self", "first", "last", "total", "key", "worth"]
theorem sc_Summer_ask : FnScope n_Summer_ask ["self", "first", "last"] (defScope s_Summer_ask) := ⟨rfl, rfl, rfl, by decide +kernel, rfl, by decide +kernel, by decide +kernel⟩
abbrev s_touches : Stmt := topS 3
abbrev n_touches : List Str := ["spread", "first", "last", "start", "end"]
theorem sc_touches : FnScope n_touches ["spread", "first", "last"] (defScope s_touches) := ⟨rfl, rfl, rfl, by decide +kernel, rfl, by decide +kernel, by decide +kernel⟩
abbrev s_holds_to : Stmt := topS 8
abbrev n_holds_to : List Str := ["source", "clock", "first", "last", "rows", "here"]
theorem sc_holds_to : FnScope n_holds_to ["source", "clock", "first", "last"] (defScope s_holds_to) := ⟨rfl, rfl, rfl, by decide +kernel, rfl, by decide +kernel, by decide +kernel⟩
abbrev s_spread_of : Stmt := topS 11
abbrev n_spread_of : List Str := ["stretches", "found", "first", "last"]
theorem sc_spread_of : FnScope n_spread_of ["stretches"] (defScope s_spread_of) := ⟨rfl, rfl, rfl, by decide +kernel, rfl, by decide +kernel, by decide +kernel⟩
abbrev s_spread_by : Stmt := topS 12
abbrev n_spread_by : List Str := ["keys", "key"]
theorem sc_spread_by : FnScope n_spread_by ["keys"] (defScope s_spread_by) := ⟨rfl, rfl, rfl, by decide +kernel, rfl, by decide +kernel, by decide +kernel⟩
abbrev s_keys_of : Stmt := topS 13
abbrev n_keys_of : List Str := ["spread", "found", "first", "last"]
theorem sc_keys_of : FnScope n_keys_of ["spread"] (defScope s_keys_of) := ⟨rfl, rfl, rfl, by decide +kernel, rfl, by decide +kernel, by decide +kernel⟩
abbrev s_met : Stmt := topS 14
abbrev n_met : List Str := ["one", "other", "found", "first", "last", "start", "end"]
theorem sc_met : FnScope n_met ["one", "other"] (defScope s_met) := ⟨rfl, rfl, rfl, by decide +kernel, rfl, by decide +kernel, by decide +kernel⟩
abbrev s_turned_out : Stmt := topS 15
abbrev n_turned_out : List Str := ["spread", "first", "last", "found", "here", "start", "end"]
theorem sc_turned_out : FnScope n_turned_out ["spread", "first", "last"] (defScope s_turned_out) := ⟨rfl, rfl, rfl, by decide +kernel, rfl, by decide +kernel, by decide +kernel⟩
abbrev s_lacking : Stmt := topS 17
abbrev n_lacking : List Str := ["spread", "first", "last"]
theorem sc_lacking : FnScope n_lacking ["spread", "first", "last"] (defScope s_lacking) := ⟨rfl, rfl, rfl, by decide +kernel, rfl, by decide +kernel, by decide +kernel⟩
abbrev s_asks : Stmt := topS 18
abbrev n_asks : List Str := ["spread", "cost", "found", "first", "last"]
theorem sc_asks : FnScope n_asks ["spread", "cost"] (defScope s_asks) := ⟨rfl, rfl, rfl, by decide +kernel, rfl, by decide +kernel, by decide +kernel⟩
abbrev s_Keeper___init__ : Stmt := inClass (topS 20) 0
abbrev n_Keeper___init__ : List Str := ["self", "source", "room", "cost"]
theorem sc_Keeper___init__ : FnScope n_Keeper___init__ ["self", "source", "room", "cost"] (defScope s_Keeper___init__) := ⟨rfl, rfl, rfl, by decide +kernel, rfl, by decide +kernel, by decide +kernel⟩
abbrev s_Keeper_known : Stmt := inClass (topS 20) 1
abbrev n_Keeper_known : List Str := ["self"]
theorem sc_Keeper_known : FnScope n_Keeper_known ["self"] (defScope s_Keeper_known) := ⟨rfl, rfl, rfl, by decide +kernel, rfl, by decide +kernel, by decide +kernel⟩
abbrev s_Keeper_forget : Stmt := inClass (topS 20) 2
abbrev n_Keeper_forget : List Str := ["self", "spread", "key"]
theorem sc_Keeper_forget : FnScope n_Keeper_forget ["self", "spread"] (defScope s_Keeper_forget) := ⟨rfl, rfl, rfl, by decide +kernel, rfl, by decide +kernel, by decide +kernel⟩
abbrev s_Keeper_hear : Stmt := inClass (topS 20) 3
abbrev n_Keeper_hear : List Str := ["self", "old"]
theorem sc_Keeper_hear : FnScope n_Keeper_hear ["self"] (defScope s_Keeper_hear) := ⟨rfl, rfl, rfl, by decide +kernel, rfl, by decide +kernel, by decide +kernel⟩
abbrev s_Keeper_take : Stmt := inClass (topS 20) 4
abbrev n_Keeper_take : List Str := ["self", "first", "last", "rows", "told", "key"]
theorem sc_Keeper_take : FnScope n_Keeper_take ["self", "first", "last", "rows"] (defScope s_Keeper_take) := ⟨rfl, rfl, rfl, by decide +kernel, rfl, by decide +kernel, by decide +kernel⟩
abbrev s_Keeper_shrink : Stmt := inClass (topS 20) 5
abbrev n_Keeper_shrink : List Str := ["self", "keyed", "turn", "key"]
theorem sc_Keeper_shrink : FnScope n_Keeper_shrink ["self"] (defScope s_Keeper_shrink) := ⟨rfl, rfl, rfl, by decide +kernel, rfl, by decide +kernel, by decide +kernel⟩
abbrev s_Keeper_told : Stmt := inClass (topS 20) 6
abbrev n_Keeper_told : List Str := ["self", "first", "last", "key"]
theorem sc_Keeper_told : FnScope n_Keeper_told ["self", "first", "last"] (defScope s_Keeper_told) := ⟨rfl, rfl, rfl, by decide +kernel, rfl, by decide +kernel, by decide +kernel⟩
abbrev s_Keeper_plan : Stmt := inClass (topS 20) 8
abbrev n_Keeper_plan : List Str := ["self", "first", "last"]
theorem sc_Keeper_plan : FnScope n_Keeper_plan ["self", "first", "last"] (defScope s_Keeper_plan) := ⟨rfl, rfl, rfl, by decide +kernel, rfl, by decide +kernel, by decide +kernel⟩
abbrev s_Keeper_ask : Stmt := inClass (topS 20) 9
abbrev n_Keeper_ask : List Str := ["self", "first", "last", "start", "end", "key", "found"]
theorem sc_Keeper_ask : FnScope n_Keeper_ask ["self", "first", "last"] (defScope s_Keeper_ask) := ⟨rfl, rfl, rfl, by decide +kernel, rfl, by decide +kernel, by decide +kernel⟩
abbrev s_Keeper_page : Stmt := inClass (topS 20) 10
abbrev n_Keeper_page : List Str := ["self", "first", "many", "found", "here"]
theorem sc_Keeper_page : FnScope n_Keeper_page ["self", "first", "many"] (defScope s_Keeper_page) := ⟨rfl, rfl, rfl, by decide +kernel, rfl, by decide +kernel, by decide +kernel⟩
abbrev s_Source___init__ : Stmt := inClass (topS 22) 0
abbrev n_Source___init__ : List Str := ["self", "rows"]
theorem sc_Source___init__ : FnScope n_Source___init__ ["self", "rows"] (defScope s_Source___init__) := ⟨rfl, rfl, rfl, by decide +kernel, rfl, by decide +kernel, by decide +kernel⟩
abbrev s_Source_clock : Stmt := inClass (topS 22) 1
abbrev n_Source_clock : List Str := ["self"]
theorem sc_Source_clock : FnScope n_Source_clock ["self"] (defScope s_Source_clock) := ⟨rfl, rfl, rfl, by decide +kernel, rfl, by decide +kernel, by decide +kernel⟩
abbrev s_Source_need : Stmt := inClass (topS 22) 2
abbrev n_Source_need : List Str := ["self", "clock"]
theorem sc_Source_need : FnScope n_Source_need ["self", "clock"] (defScope s_Source_need) := ⟨rfl, rfl, rfl, by decide +kernel, rfl, by decide +kernel, by decide +kernel⟩
abbrev s_Source_look : Stmt := inClass (topS 22) 3
abbrev n_Source_look : List Str := ["self", "first", "last"]
theorem sc_Source_look : FnScope n_Source_look ["self", "first", "last"] (defScope s_Source_look) := ⟨rfl, rfl, rfl, by decide +kernel, rfl, by decide +kernel, by decide +kernel⟩
abbrev s_Source_look_at : Stmt := inClass (topS 22) 4
abbrev n_Source_look_at : List Str := ["self", "clock", "first", "last", "rows", "key"]
theorem sc_Source_look_at : FnScope n_Source_look_at ["self", "clock", "first", "last"] (defScope s_Source_look_at) := ⟨rfl, rfl, rfl, by decide +kernel, rfl, by decide +kernel, by decide +kernel⟩
abbrev s_Source_ask : Stmt := inClass (topS 22) 5
abbrev n_Source_ask : List Str := ["self", "first", "last"]
theorem sc_Source_ask : FnScope n_Source_ask ["self", "first", "last"] (defScope s_Source_ask) := ⟨rfl, rfl, rfl, by decide +kernel, rfl, by decide +kernel, by decide +kernel⟩
abbrev s_Source_told : Stmt := inClass (topS 22) 6
abbrev n_Source_told : List Str := ["self"]
theorem sc_Source_told : FnScope n_Source_told ["self"] (defScope s_Source_told) := ⟨rfl, rfl, rfl, by decide +kernel, rfl, by decide +kernel, by decide +kernel⟩
abbrev s_Source_put : Stmt := inClass (topS 22) 7
abbrev n_Source_put : List Str := ["self", "key", "worth", "rows"]
theorem sc_Source_put : FnScope n_Source_put ["self", "key", "worth"] (defScope s_Source_put) := ⟨rfl, rfl, rfl, by decide +kernel, rfl, by decide +kernel, by decide +kernel⟩
abbrev s_Source_drop : Stmt := inClass (topS 22) 8
abbrev n_Source_drop : List Str := ["self", "key", "rows"]
theorem sc_Source_drop : FnScope n_Source_drop ["self", "key"] (defScope s_Source_drop) := ⟨rfl, rfl, rfl, by decide +kernel, rfl, by decide +kernel, by decide +kernel⟩
abbrev s_Source_changes_since : Stmt := inClass (topS 22) 9
abbrev n_Source_changes_since : List Str := ["self", "clock"]
theorem sc_Source_changes_since : FnScope n_Source_changes_since ["self", "clock"] (defScope s_Source_changes_since) := ⟨rfl, rfl, rfl, by decide +kernel, rfl, by decide +kernel, by decide +kernel⟩
abbrev s_law_draw : Stmt := topS 24
abbrev n_law_draw : List Str := ["_law_script", "_law_town", "_law_many", "_law_k", "_law_cell", "_law_number", "_law_more"]
theorem sc_law_draw : FnScope n_law_draw ["_law_script", "_law_town", "_law_many"] (defScope s_law_draw) := ⟨rfl, rfl, rfl, by decide +kernel, rfl, by decide +kernel, by decide +kernel⟩
abbrev s_law_pick : Stmt := topS 25
abbrev n_law_pick : List Str := ["_law_script", "_law_town", "_law_some"]
theorem sc_law_pick : FnScope n_law_pick ["_law_script", "_law_town", "_law_some"] (defScope s_law_pick) := ⟨rfl, rfl, rfl, by decide +kernel, rfl, by decide +kernel, by decide +kernel⟩
abbrev s_law_rows : Stmt := topS 26
abbrev n_law_rows : List Str := ["_law_script", "_law_town", "_law_found", "_law_k"]
theorem sc_law_rows : FnScope n_law_rows ["_law_script", "_law_town"] (defScope s_law_rows) := ⟨rfl, rfl, rfl, by decide +kernel, rfl, by decide +kernel, by decide +kernel⟩
abbrev s_law_window : Stmt := topS 27
abbrev n_law_window : List Str := ["_law_script", "_law_town", "_law_first"]
theorem sc_law_window : FnScope n_law_window ["_law_script", "_law_town"] (defScope s_law_window) := ⟨rfl, rfl, rfl, by decide +kernel, rfl, by decide +kernel, by decide +kernel⟩
abbrev s_law_change : Stmt := topS 28
abbrev n_law_change : List Str := ["_law_script", "_law_town", "_law_source", "_law_rows_here", "_law_key"]
theorem sc_law_change : FnScope n_law_change ["_law_script", "_law_town", "_law_source", "_law_rows_here"] (defScope s_law_change) := ⟨rfl, rfl, rfl, by decide +kernel, rfl, by decide +kernel, by decide +kernel⟩
abbrev s_law_paged : Stmt := topS 29
abbrev n_law_paged : List Str := ["_law_keeper", "_law_first", "_law_last", "_law_found", "_law_here", "_law_rows_here", "_law_key", "_law_worth"]
theorem sc_law_paged : FnScope n_law_paged ["_law_keeper", "_law_first", "_law_last"] (defScope s_law_paged) := ⟨rfl, rfl, rfl, by decide +kernel, rfl, by decide +kernel, by decide +kernel⟩
abbrev s_law_kept_stands : Stmt := topS 30
abbrev n_law_kept_stands : List Str := ["_law_source", "_law_since", "_law_sums", "_law_first", "_law_last", "_law_total", "_law_there", "_law_key", "_law_worth"]
theorem sc_law_kept_stands : FnScope n_law_kept_stands ["_law_source", "_law_since", "_law_sums"] (defScope s_law_kept_stands) := ⟨rfl, rfl, rfl, by decide +kernel, rfl, by decide +kernel, by decide +kernel⟩
abbrev s_law : Stmt := topS 31
abbrev n_law : List Str := ["_law_script", "_law_town", "_law_k", "_law_rows_here", "_law_source", "_law_keeper", "_law_summer", "_law_since", "_law_j", "_law_turn", "_law_first", "_law_last", "_law_before", "_law_counted", "_law_many", "_law_total", "_law_one", "_law_key", "_law_worth"]
theorem sc_law : FnScope n_law ["_law_script"] (defScope s_law) := ⟨rfl, rfl, rfl, by decide +kernel, rfl, by decide +kernel, by decide +kernel⟩
structure Txt (L : Lk) (mg : Str → Option Value) : Prop where
  tt : True
  z_any : mg "any" = none
  z_dict : mg "dict" = none
  z_len : mg "len" = none
  z_list : mg "list" = none
  z_max : mg "max" = none
  z_min : mg "min" = none
  z_range : mg "range" = none
  z_sorted : mg "sorted" = none
  z_sum : mg "sum" = none
  z_tuple : mg "tuple" = none
  c_KEYS : ∃ t, mg "KEYS" = some (.int 100 t)
  g_touches : mg "touches" = some (.ref (L.FA 51))
  g_holds_to : mg "holds_to" = some (.ref (L.FA 53))
  g_spread_of : mg "spread_of" = some (.ref (L.FA 4))
  g_spread_by : mg "spread_by" = some (.ref (L.FA 5))
  g_keys_of : mg "keys_of" = some (.ref (L.FA 8))
  g_met : mg "met" = some (.ref (L.FA 10))
  g_turned_out : mg "turned_out" = some (.ref (L.FA 11))
  g_lacking : mg "lacking" = some (.ref (L.FA 14))
  g_asks : mg "asks" = some (.ref (L.FA 17))
  g_law_draw : mg "_law_draw" = some (.ref (L.FA 102))
  g_law_pick : mg "_law_pick" = some (.ref (L.FA 103))
  g_law_rows : mg "_law_rows" = some (.ref (L.FA 115))
  g_law_window : mg "_law_window" = some (.ref (L.FA 108))
  g_law_change : mg "_law_change" = some (.ref (L.FA 117))
  g_law_paged : mg "_law_paged" = some (.ref (L.FA 187))
  g_law_kept_stands : mg "_law_kept_stands" = some (.ref (L.FA 188))
  cl_Source : mg "Source" = some (.ref (L.CA 1))
  fn_Source_stands : (L.FN 1)[0]? = some ("stands" : Str)
  fn_Source_changed : (L.FN 1)[1]? = some ("changed" : Str)
  fn_Source_many_asks : (L.FN 1)[2]? = some ("many_asks" : Str)
  fn_Source_many_keys : (L.FN 1)[3]? = some ("many_keys" : Str)
  cl_Keeper : mg "Keeper" = some (.ref (L.CA 2))
  fn_Keeper_source : (L.FN 2)[0]? = some ("source" : Str)
  fn_Keeper_room : (L.FN 2)[1]? = some ("room" : Str)
  fn_Keeper_cost : (L.FN 2)[2]? = some ("cost" : Str)
  fn_Keeper_heard : (L.FN 2)[3]? = some ("heard" : Str)
  fn_Keeper_turn : (L.FN 2)[4]? = some ("turn" : Str)
  fn_Keeper_stamps : (L.FN 2)[5]? = some ("stamps" : Str)
  fn_Keeper_rows : (L.FN 2)[6]? = some ("rows" : Str)
  cl_Summer : mg "Summer" = some (.ref (L.CA 3))
  fn_Summer_source : (L.FN 3)[0]? = some ("source" : Str)
  fn_Summer_heard : (L.FN 3)[1]? = some ("heard" : Str)
  fn_Summer_kept : (L.FN 3)[2]? = some ("kept" : Str)
  fn_Summer_many : (L.FN 3)[3]? = some ("many" : Str)
  mn_ask : L.MN 2 = "ask"
  mn_asked : L.MN 3 = "asked"
  mn_changes_since : L.MN 4 = "changes_since"
  mn_clock : L.MN 5 = "clock"
  mn_drop : L.MN 6 = "drop"
  mn_follows : L.MN 7 = "follows"
  mn_forget : L.MN 8 = "forget"
  mn_hear : L.MN 9 = "hear"
  mn_known : L.MN 10 = "known"
  mn_look : L.MN 11 = "look"
  mn_look_at : L.MN 12 = "look_at"
  mn_need : L.MN 13 = "need"
  mn_page : L.MN 14 = "page"
  mn_plan : L.MN 16 = "plan"
  mn_put : L.MN 17 = "put"
  mn_shrink : L.MN 19 = "shrink"
  mn_sums : L.MN 20 = "sums"
  mn_take : L.MN 21 = "take"
  mn_told : L.MN 22 = "told"
  e_NoClock : ExT L mg "NoClock" 1
  t_NoClock : ExN L mg "NoClock" [1]
section
variable {L : Lk} {n : Nat} {P : Program} {w : World} {mg : Str → Option Value} {base : Heap} {cdv : Value} {A : Around} {outer : List Env} {s : Shared} {H : Hp} {E : XK}
theorem bd_Summer___init__ (T : Txt L mg) : DSs L gm n (cxOf (L2.CX P w) P w L.K mg base n_Summer___init__ "Summer.__init__" (defScope s_Summer___init__) (L.FA 45) cdv A outer s H E) (defBody s_Summer___init__) IR.Summer___init__ :=
  (dss_cons (s_put T.fn_Summer_source v_ v_)
  (dss_cons (s_put T.fn_Summer_heard (meth0_ T.mn_clock v_) v_)
  (dss_cons (s_put T.fn_Summer_kept (de_tup da_nil) v_)
  (dss_cons (s_put T.fn_Summer_many de_int v_)
  dss_nil))))
theorem bd_Summer_sums (T : Txt L mg) : DSs L gm n (cxOf (L2.CX P w) P w L.K mg base n_Summer_sums "Summer.sums" (defScope s_Summer_sums) (L.FA 46) cdv A outer s H E) (defBody s_Summer_sums) IR.Summer_sums :=
  (dss_cons (ds_ret (fld_ T.fn_Summer_kept v_))
  dss_nil)
theorem bd_Summer_asked (T : Txt L mg) : DSs L gm n (cxOf (L2.CX P w) P w L.K mg base n_Summer_asked "Summer.asked" (defScope s_Summer_asked) (L.FA 47) cdv A outer s H E) (defBody s_Summer_asked) IR.Summer_asked :=
  (dss_cons (ds_ret (fld_ T.fn_Summer_many v_))
  dss_nil)
theorem bd_Summer_hear (T : Txt L mg) : DSs L gm n (cxOf (L2.CX P w) P w L.K mg base n_Summer_hear "Summer.hear" (defScope s_Summer_hear) (L.FA 48) cdv A outer s H E) (defBody s_Summer_hear) IR.Summer_hear :=
  (dss_cons (s_set (meth_ T.mn_changes_since (fld_ T.fn_Summer_source v_) (a_ (fld_ T.fn_Summer_heard v_) da_nil)))
  (dss_cons (s_set (bi_ b_tuple T.z_tuple (a_ (de_fz (lc_ [("one", 4)] (di_seq (fld_ T.fn_Summer_kept v_)) (fun _ _ _ _ _ => g_) (fun _ _ _ _ _ => (dts_one (dt_not (tv (f_ T.g_touches (a_ v_ (a_ (ix_ v_ de_int) (a_ (ix_ v_ de_int) da_nil)))))))) (fun _ _ _ _ _ => v_) (blkOk_by (N := n_Summer_hear) (sc := defScope s_Summer_hear) (by decide +kernel)))) da_nil)))
  (dss_cons (s_set (o_sub (bi_ b_len T.z_len (a_ (fld_ T.fn_Summer_kept v_) da_nil)) (bi_ b_len T.z_len (a_ v_ da_nil))))
  (dss_cons (s_put T.fn_Summer_kept v_ v_)
  (dss_cons (s_put T.fn_Summer_heard (meth0_ T.mn_clock (fld_ T.fn_Summer_source v_)) v_)
  (dss_cons (ds_ret v_)
  dss_nil))))))
theorem bd_Summer_follows (T : Txt L mg) : DSs L gm n (cxOf (L2.CX P w) P w L.K mg base n_Summer_follows "Summer.follows" (defScope s_Summer_follows) (L.FA 49) cdv A outer s H E) (defBody s_Summer_follows) IR.Summer_follows :=
  (dss_cons (s_set (de_dic (ps := [((.var 1), (.cst (.int 0)))]) (dpr_cons v_ de_int dpr_nil) rfl rfl (List.cons_ne_nil _ _) rfl))
  (dss_cons (s_set (de_lst (a_ v_ da_nil)))
  (dss_cons (ds_while (tv v_) (dss_cons (s_set (bm0_ m_pop v_))
  (dss_cons (s_for (di_seq (fld_ T.fn_Summer_kept v_)) (gt_ (gs_ g_ (gs_ g_ (gs_ g_ dgs_nil)))) (dss_cons (ds_if (dt_w (dw_and (eqT v_ v_) (dw_and1 (nkinT v_ v_)))) (dss_cons (s_sub (o_add (ix_ v_ v_) v_) v_ v_)
  (dss_cons (s_expr (bm_ m_append v_ (a_ v_ da_nil)))
  dss_nil)) dss_nil)
  (dss_cons (ds_if (dt_w (dw_and (eqT v_ v_) (dw_and1 (nkinT v_ v_)))) (dss_cons (s_sub (o_sub (ix_ v_ v_) v_) v_ v_)
  (dss_cons (s_expr (bm_ m_append v_ (a_ v_ da_nil)))
  dss_nil)) dss_nil)
  dss_nil)))
  dss_nil)))
  (dss_cons (ds_ret (get2_ v_ v_ de_non))
  dss_nil))))
theorem bd_Summer_ask (T : Txt L mg) : DSs L gm n (cxOf (L2.CX P w) P w L.K mg base n_Summer_ask "Summer.ask" (defScope s_Summer_ask) (L.FA 50) cdv A outer s H E) (defBody s_Summer_ask) IR.Summer_ask :=
  (dss_cons (s_expr (meth0_ T.mn_hear v_))
  (dss_cons (s_set (meth_ T.mn_follows v_ (a_ v_ (a_ v_ da_nil))))
  (dss_cons (ds_if (dt_isn v_) (dss_cons (s_set (bi_ b_sum T.z_sum (a_ (de_fz (lc_ [("key", 4), ("worth", 5)] (di_seq (de_wk (meth_ T.mn_ask (fld_ T.fn_Summer_source v_) (a_ v_ (a_ v_ da_nil))))) (fun _ _ _ _ _ => (gt_ (gs_ g_ (gs_ g_ dgs_nil)))) (fun _ _ _ _ _ => dts_nil) (fun _ _ _ _ _ => v_) (blkOk_by (N := n_Summer_ask) (sc := defScope s_Summer_ask) (by decide +kernel)))) da_nil)))
  (dss_cons (s_put T.fn_Summer_many (o_add (fld_ T.fn_Summer_many v_) de_int) v_)
  (dss_cons (s_put T.fn_Summer_kept (bi_ b_tuple T.z_tuple (a_ (de_fz (bi_ b_sort3 T.z_sorted (a_ (o_add (fld_ T.fn_Summer_kept v_) (de_tup (a_ (de_tup (a_ v_ (a_ v_ (a_ v_ da_nil)))) da_nil))) da_nil))) da_nil)) v_)
  dss_nil))) dss_nil)
  (dss_cons (ds_ret v_)
  dss_nil))))
theorem bd_touches (T : Txt L mg) : DSs L gm n (cxOf (L2.CX P w) P w L.K mg base n_touches "touches" (defScope s_touches) (L.FA 51) cdv A outer s H E) (defBody s_touches) IR.touches :=
  (dss_cons (ds_ret (bi_ b_any T.z_any (a_ (de_fz (lc_ [("start", 3), ("end", 4)] (di_seq v_) (fun _ _ _ _ _ => (gt_ (gs_ g_ (gs_ g_ dgs_nil)))) (fun _ _ _ _ _ => dts_nil) (fun _ _ _ _ _ => (de_and (cmpE k_lt v_ v_) (de_one (cmpE k_lt v_ v_)))) (blkOk_by (N := n_touches) (sc := defScope s_touches) (by decide +kernel)))) da_nil)))
  dss_nil)
theorem bd_holds_to (T : Txt L mg) : DSs L gm n (cxOf (L2.CX P w) P w L.K mg base n_holds_to "holds_to" (defScope s_holds_to) (L.FA 53) cdv A outer s H E) (defBody s_holds_to) IR.holds_to :=
  (dss_cons (s_set (de_wk (meth_ T.mn_look_at v_ (a_ v_ (a_ v_ (a_ v_ da_nil))))))
  (dss_cons (s_for (ir2_ T.z_range (o_add v_ de_int) (o_add (meth0_ T.mn_clock v_) de_int)) g_ (dss_cons (ds_if (neT (de_wk (meth_ T.mn_look_at v_ (a_ v_ (a_ v_ (a_ v_ da_nil))))) v_) (dss_cons (ds_ret (o_sub v_ de_int))
  dss_nil) dss_nil)
  dss_nil))
  (dss_cons (ds_ret de_non)
  dss_nil)))
theorem bd_spread_of (T : Txt L mg) : DSs L gm n (cxOf (L2.CX P w) P w L.K mg base n_spread_of "spread_of" (defScope s_spread_of) (L.FA 4) cdv A outer s H E) (defBody s_spread_of) IR.spread_of :=
  (dss_cons (s_set (de_lst da_nil))
  (dss_cons (s_for (di_seq (bi_ b_sorted T.z_sorted (a_ v_ da_nil))) (gt_ (gs_ g_ (gs_ g_ dgs_nil))) (dss_cons (ds_if (dt_w (dw_and (tv v_) (dw_and1 (cmpT k_le v_ (ix_ (ix_ v_ (de_neg de_int)) de_int))))) (dss_cons (s_sub (de_tup (a_ (ix_ (ix_ v_ (de_neg de_int)) de_int) (a_ (bi_ b_max2 T.z_max (a_ (ix_ (ix_ v_ (de_neg de_int)) de_int) (a_ v_ da_nil))) da_nil))) v_ (de_neg de_int))
  dss_nil) (dss_cons (s_expr (bm_ m_append v_ (a_ (de_tup (a_ v_ (a_ v_ da_nil))) da_nil)))
  dss_nil))
  dss_nil))
  (dss_cons (ds_ret (bi_ b_tuple T.z_tuple (a_ v_ da_nil)))
  dss_nil)))
theorem bd_spread_by (T : Txt L mg) : DSs L gm n (cxOf (L2.CX P w) P w L.K mg base n_spread_by "spread_by" (defScope s_spread_by) (L.FA 5) cdv A outer s H E) (defBody s_spread_by) IR.spread_by :=
  (dss_cons (ds_ret (f_ T.g_spread_of (a_ (lc_ [("key", 1)] (di_seq v_) (fun _ _ _ _ _ => g_) (fun _ _ _ _ _ => dts_nil) (fun _ _ _ _ _ => (de_tup (a_ v_ (a_ (o_add v_ de_int) da_nil)))) (blkOk_by (N := n_spread_by) (sc := defScope s_spread_by) (by decide +kernel))) da_nil)))
  dss_nil)
theorem bd_keys_of (T : Txt L mg) : DSs L gm n (cxOf (L2.CX P w) P w L.K mg base n_keys_of "keys_of" (defScope s_keys_of) (L.FA 8) cdv A outer s H E) (defBody s_keys_of) IR.keys_of :=
  (dss_cons (s_set (de_lst da_nil))
  (dss_cons (s_for (di_seq v_) (gt_ (gs_ g_ (gs_ g_ dgs_nil))) (dss_cons (s_expr (bm_ m_extend v_ (a_ (lrg_ T.z_list (r2_ T.z_range v_ v_)) da_nil)))
  dss_nil))
  (dss_cons (ds_ret (bi_ b_tuple T.z_tuple (a_ v_ da_nil)))
  dss_nil)))
theorem bd_met (T : Txt L mg) : DSs L gm n (cxOf (L2.CX P w) P w L.K mg base n_met "met" (defScope s_met) (L.FA 10) cdv A outer s H E) (defBody s_met) IR.met :=
  (dss_cons (s_set (de_lst da_nil))
  (dss_cons (s_for (di_seq v_) (gt_ (gs_ g_ (gs_ g_ dgs_nil))) (dss_cons (s_for (di_seq v_) (gt_ (gs_ g_ (gs_ g_ dgs_nil))) (dss_cons (ds_if (cmpT k_lt (bi_ b_max2 T.z_max (a_ v_ (a_ v_ da_nil))) (bi_ b_min2 T.z_min (a_ v_ (a_ v_ da_nil)))) (dss_cons (s_expr (bm_ m_append v_ (a_ (de_tup (a_ (bi_ b_max2 T.z_max (a_ v_ (a_ v_ da_nil))) (a_ (bi_ b_min2 T.z_min (a_ v_ (a_ v_ da_nil))) da_nil))) da_nil)))
  dss_nil) dss_nil)
  dss_nil))
  dss_nil))
  (dss_cons (ds_ret (f_ T.g_spread_of (a_ v_ da_nil)))
  dss_nil)))
theorem bd_turned_out (T : Txt L mg) : DSs L gm n (cxOf (L2.CX P w) P w L.K mg base n_turned_out "turned_out" (defScope s_turned_out) (L.FA 11) cdv A outer s H E) (defBody s_turned_out) IR.turned_out :=
  (dss_cons (s_set (de_lst da_nil))
  (dss_cons (s_set v_)
  (dss_cons (s_for (di_seq v_) (gt_ (gs_ g_ (gs_ g_ dgs_nil))) (dss_cons (ds_if (dt_w (dw_and (cmpT k_gt v_ v_) (dw_and1 (cmpT k_lt v_ v_)))) (dss_cons (s_expr (bm_ m_append v_ (a_ (de_tup (a_ v_ (a_ (bi_ b_min2 T.z_min (a_ v_ (a_ v_ da_nil))) da_nil))) da_nil)))
  dss_nil) dss_nil)
  (dss_cons (s_set (bi_ b_max2 T.z_max (a_ v_ (a_ v_ da_nil))))
  dss_nil)))
  (dss_cons (ds_if (cmpT k_lt v_ v_) (dss_cons (s_expr (bm_ m_append v_ (a_ (de_tup (a_ v_ (a_ v_ da_nil))) da_nil)))
  dss_nil) dss_nil)
  (dss_cons (ds_ret (bi_ b_tuple T.z_tuple (a_ v_ da_nil)))
  dss_nil)))))
theorem bd_lacking (T : Txt L mg) : DSs L gm n (cxOf (L2.CX P w) P w L.K mg base n_lacking "lacking" (defScope s_lacking) (L.FA 14) cdv A outer s H E) (defBody s_lacking) IR.lacking :=
  (dss_cons (ds_ret (f_ T.g_turned_out (a_ v_ (a_ v_ (a_ v_ da_nil)))))
  dss_nil)
theorem bd_asks (T : Txt L mg) : DSs L gm n (cxOf (L2.CX P w) P w L.K mg base n_asks "asks" (defScope s_asks) (L.FA 17) cdv A outer s H E) (defBody s_asks) IR.asks :=
  (dss_cons (s_set (de_lst da_nil))
  (dss_cons (s_for (di_seq v_) (gt_ (gs_ g_ (gs_ g_ dgs_nil))) (dss_cons (ds_if (dt_w (dw_and (tv v_) (dw_and1 (cmpT k_lt (o_sub v_ (ix_ (ix_ v_ (de_neg de_int)) de_int)) v_)))) (dss_cons (s_sub (de_tup (a_ (ix_ (ix_ v_ (de_neg de_int)) de_int) (a_ v_ da_nil))) v_ (de_neg de_int))
  dss_nil) (dss_cons (s_expr (bm_ m_append v_ (a_ (de_tup (a_ v_ (a_ v_ da_nil))) da_nil)))
  dss_nil))
  dss_nil))
  (dss_cons (ds_ret (bi_ b_tuple T.z_tuple (a_ v_ da_nil)))
  dss_nil)))
theorem bd_Keeper___init__ (T : Txt L mg) : DSs L gm n (cxOf (L2.CX P w) P w L.K mg base n_Keeper___init__ "Keeper.__init__" (defScope s_Keeper___init__) (L.FA 33) cdv A outer s H E) (defBody s_Keeper___init__) IR.Keeper___init__ :=
  (dss_cons (s_put T.fn_Keeper_source v_ v_)
  (dss_cons (s_put T.fn_Keeper_room v_ v_)
  (dss_cons (s_put T.fn_Keeper_cost v_ v_)
  (dss_cons (s_put T.fn_Keeper_heard (meth0_ T.mn_clock v_) v_)
  (dss_cons (s_put T.fn_Keeper_turn de_int v_)
  (dss_cons (s_put T.fn_Keeper_stamps de_dnew v_)
  (dss_cons (s_put T.fn_Keeper_rows de_dnew v_)
  dss_nil)))))))
theorem bd_Keeper_known (T : Txt L mg) : DSs L gm n (cxOf (L2.CX P w) P w L.K mg base n_Keeper_known "Keeper.known" (defScope s_Keeper_known) (L.FA 34) cdv A outer s H E) (defBody s_Keeper_known) IR.Keeper_known :=
  (dss_cons (ds_ret (f_ T.g_spread_by (a_ (de_fz (bi_ b_sortd T.z_sorted (a_ (fld_ T.fn_Keeper_stamps v_) da_nil))) da_nil)))
  dss_nil)
theorem bd_Keeper_forget (T : Txt L mg) : DSs L gm n (cxOf (L2.CX P w) P w L.K mg base n_Keeper_forget "Keeper.forget" (defScope s_Keeper_forget) (L.FA 35) cdv A outer s H E) (defBody s_Keeper_forget) IR.Keeper_forget :=
  (dss_cons (s_for (di_seq (f_ T.g_keys_of (a_ (f_ T.g_met (a_ (meth0_ T.mn_known v_) (a_ v_ da_nil))) da_nil))) g_ (dss_cons (s_expr (dpop1_ (fld_ T.fn_Keeper_stamps v_) v_))
  (dss_cons (s_expr (dpop2_ (fld_ T.fn_Keeper_rows v_) v_ de_non))
  dss_nil)))
  dss_nil)
theorem bd_Keeper_hear (T : Txt L mg) : DSs L gm n (cxOf (L2.CX P w) P w L.K mg base n_Keeper_hear "Keeper.hear" (defScope s_Keeper_hear) (L.FA 36) cdv A outer s H E) (defBody s_Keeper_hear) IR.Keeper_hear :=
  (dss_cons (s_set (f_ T.g_met (a_ (meth0_ T.mn_known v_) (a_ (meth_ T.mn_changes_since (fld_ T.fn_Keeper_source v_) (a_ (fld_ T.fn_Keeper_heard v_) da_nil)) da_nil))))
  (dss_cons (s_expr (meth_ T.mn_forget v_ (a_ v_ da_nil)))
  (dss_cons (s_put T.fn_Keeper_heard (meth0_ T.mn_clock (fld_ T.fn_Keeper_source v_)) v_)
  (dss_cons (ds_ret v_)
  dss_nil))))
theorem bd_Keeper_take (T : Txt L mg) : DSs L gm n (cxOf (L2.CX P w) P w L.K mg base n_Keeper_take "Keeper.take" (defScope s_Keeper_take) (L.FA 37) cdv A outer s H E) (defBody s_Keeper_take) IR.Keeper_take :=
  (dss_cons (s_set (de_fz (bi_ b_dictt T.z_dict (a_ v_ da_nil))))
  (dss_cons (s_for (ir2_ T.z_range v_ v_) g_ (dss_cons (s_expr (dpop2_ (fld_ T.fn_Keeper_rows v_) v_ de_non))
  (dss_cons (s_sub (fld_ T.fn_Keeper_turn v_) (fld_ T.fn_Keeper_stamps v_) v_)
  (dss_cons (ds_if (kinT v_ v_) (dss_cons (s_sub (ix_ v_ v_) (fld_ T.fn_Keeper_rows v_) v_)
  dss_nil) dss_nil)
  dss_nil))))
  dss_nil))
theorem bd_Keeper_shrink (T : Txt L mg) : DSs L gm n (cxOf (L2.CX P w) P w L.K mg base n_Keeper_shrink "Keeper.shrink" (defScope s_Keeper_shrink) (L.FA 38) cdv A outer s H E) (defBody s_Keeper_shrink) IR.Keeper_shrink :=
  (dss_cons (s_set (de_fz (bi_ b_sorted T.z_sorted (a_ (de_fz (de_lk (lc_ [("key", 3)] (di_keys (fld_ T.fn_Keeper_stamps v_)) (fun _ _ _ _ _ => g_) (fun _ _ _ _ _ => dts_nil) (fun _ _ _ _ _ => (de_tup (a_ (ix_ (fld_ T.fn_Keeper_stamps v_) v_) (a_ v_ da_nil)))) (blkOk_by (N := n_Keeper_shrink) (sc := defScope s_Keeper_shrink) (by decide +kernel))))) da_nil))))
  (dss_cons (s_for (di_seq (de_fz (de_cut v_ do_none (do_some (bi_ b_max2 T.z_max (a_ de_int (a_ (o_sub (bi_ b_len T.z_len (a_ v_ da_nil)) (fld_ T.fn_Keeper_room v_)) da_nil))))))) (gt_ (gs_ g_ (gs_ g_ dgs_nil))) (dss_cons (s_expr (dpop1_ (fld_ T.fn_Keeper_stamps v_) v_))
  (dss_cons (s_expr (dpop2_ (fld_ T.fn_Keeper_rows v_) v_ de_non))
  dss_nil)))
  dss_nil))
theorem bd_Keeper_told (T : Txt L mg) : DSs L gm n (cxOf (L2.CX P w) P w L.K mg base n_Keeper_told "Keeper.told" (defScope s_Keeper_told) (L.FA 39) cdv A outer s H E) (defBody s_Keeper_told) IR.Keeper_told :=
  (dss_cons (ds_ret (ptl_ T.z_tuple (de_fz (lc_ [("key", 3)] (di_seq (de_fz (bi_ b_sortd T.z_sorted (a_ (fld_ T.fn_Keeper_rows v_) da_nil)))) (fun _ _ _ _ _ => g_) (fun _ _ _ _ _ => (dts_one (chnT k_le k_lt v_ v_ v_))) (fun _ _ _ _ _ => (de_tup (a_ v_ (a_ (ix_ (fld_ T.fn_Keeper_rows v_) v_) da_nil)))) (blkOk_by (N := n_Keeper_told) (sc := defScope s_Keeper_told) (by decide +kernel))))))
  dss_nil)
theorem bd_Keeper_plan (T : Txt L mg) : DSs L gm n (cxOf (L2.CX P w) P w L.K mg base n_Keeper_plan "Keeper.plan" (defScope s_Keeper_plan) (L.FA 41) cdv A outer s H E) (defBody s_Keeper_plan) IR.Keeper_plan :=
  (dss_cons (ds_ret (f_ T.g_asks (a_ (f_ T.g_lacking (a_ (meth0_ T.mn_known v_) (a_ v_ (a_ v_ da_nil)))) (a_ (fld_ T.fn_Keeper_cost v_) da_nil))))
  dss_nil)
theorem bd_Keeper_ask (T : Txt L mg) : DSs L gm n (cxOf (L2.CX P w) P w L.K mg base n_Keeper_ask "Keeper.ask" (defScope s_Keeper_ask) (L.FA 42) cdv A outer s H E) (defBody s_Keeper_ask) IR.Keeper_ask :=
  (dss_cons (s_expr (meth0_ T.mn_hear v_))
  (dss_cons (s_put T.fn_Keeper_turn (o_add (fld_ T.fn_Keeper_turn v_) de_int) v_)
  (dss_cons (s_for (di_seq (meth_ T.mn_plan v_ (a_ v_ (a_ v_ da_nil)))) (gt_ (gs_ g_ (gs_ g_ dgs_nil))) (dss_cons (s_expr (meth_ T.mn_take v_ (a_ v_ (a_ v_ (a_ (meth_ T.mn_ask (fld_ T.fn_Keeper_source v_) (a_ v_ (a_ v_ da_nil))) da_nil)))))
  dss_nil))
  (dss_cons (s_for (ir2_ T.z_range v_ v_) g_ (dss_cons (s_sub (fld_ T.fn_Keeper_turn v_) (fld_ T.fn_Keeper_stamps v_) v_)
  dss_nil))
  (dss_cons (s_set (de_wk (meth_ T.mn_told v_ (a_ v_ (a_ v_ da_nil)))))
  (dss_cons (s_expr (meth0_ T.mn_shrink v_))
  (dss_cons (ds_ret v_)
  dss_nil)))))))
theorem bd_Keeper_page (T : Txt L mg) : DSs L gm n (cxOf (L2.CX P w) P w L.K mg base n_Keeper_page "Keeper.page" (defScope s_Keeper_page) (L.FA 43) cdv A outer s H E) (defBody s_Keeper_page) IR.Keeper_page :=
  (dss_cons (s_set (de_tup da_nil))
  (dss_cons (s_set v_)
  (dss_cons (ds_while (dt_w (dw_and (cmpT k_lt v_ (c_gint T.c_KEYS)) (dw_and1 (cmpT k_lt (bi_ b_len T.z_len (a_ v_ da_nil)) v_)))) (dss_cons (s_set (o_add v_ (meth_ T.mn_ask v_ (a_ v_ (a_ (bi_ b_min2 T.z_min (a_ (c_gint T.c_KEYS) (a_ (o_add v_ de_int) da_nil))) da_nil)))))
  (dss_cons (s_set (bi_ b_min2 T.z_min (a_ (c_gint T.c_KEYS) (a_ (o_add v_ de_int) da_nil))))
  dss_nil)))
  (dss_cons (ds_if (cmpT k_ge (bi_ b_len T.z_len (a_ v_ da_nil)) v_) (dss_cons (s_set (de_cut v_ do_none (do_some v_)))
  (dss_cons (s_set v_)
  (dss_cons (ds_if (tv v_) (dss_cons (s_set (o_add (ix_ (ix_ v_ (de_neg de_int)) de_int) de_int))
  dss_nil) dss_nil)
  dss_nil))) dss_nil)
  (dss_cons (ds_if (cmpT k_ge v_ (c_gint T.c_KEYS)) (dss_cons (ds_ret (de_tup (a_ v_ (a_ de_non da_nil))))
  dss_nil) dss_nil)
  (dss_cons (ds_ret (de_tup (a_ v_ (a_ v_ da_nil))))
  dss_nil))))))
theorem bd_Source___init__ (T : Txt L mg) : DSs L gm n (cxOf (L2.CX P w) P w L.K mg base n_Source___init__ "Source.__init__" (defScope s_Source___init__) (L.FA 21) cdv A outer s H E) (defBody s_Source___init__) IR.Source___init__ :=
  (dss_cons (s_put T.fn_Source_stands (de_lst (a_ (de_fz (bi_ b_dictt T.z_dict (a_ v_ da_nil))) da_nil)) v_)
  (dss_cons (s_put T.fn_Source_changed (de_lst da_nil) v_)
  (dss_cons (s_put T.fn_Source_many_asks de_int v_)
  (dss_cons (s_put T.fn_Source_many_keys de_int v_)
  dss_nil))))
theorem bd_Source_clock (T : Txt L mg) : DSs L gm n (cxOf (L2.CX P w) P w L.K mg base n_Source_clock "Source.clock" (defScope s_Source_clock) (L.FA 22) cdv A outer s H E) (defBody s_Source_clock) IR.Source_clock :=
  (dss_cons (ds_ret (bi_ b_len T.z_len (a_ (fld_ T.fn_Source_changed v_) da_nil)))
  dss_nil)
theorem bd_Source_need (T : Txt L mg) : DSs L gm n (cxOf (L2.CX P w) P w L.K mg base n_Source_need "Source.need" (defScope s_Source_need) (L.FA 23) cdv A outer s H E) (defBody s_Source_need) IR.Source_need :=
  (dss_cons (ds_if (dt_not (chnT k_le k_le de_int v_ (meth0_ T.mn_clock v_))) (dss_cons (rais_ T.e_NoClock)
  dss_nil) dss_nil)
  dss_nil)
theorem bd_Source_look (T : Txt L mg) : DSs L gm n (cxOf (L2.CX P w) P w L.K mg base n_Source_look "Source.look" (defScope s_Source_look) (L.FA 24) cdv A outer s H E) (defBody s_Source_look) IR.Source_look :=
  (dss_cons (ds_ret (meth_ T.mn_look_at v_ (a_ (meth0_ T.mn_clock v_) (a_ v_ (a_ v_ da_nil)))))
  dss_nil)
theorem bd_Source_look_at (T : Txt L mg) : DSs L gm n (cxOf (L2.CX P w) P w L.K mg base n_Source_look_at "Source.look_at" (defScope s_Source_look_at) (L.FA 25) cdv A outer s H E) (defBody s_Source_look_at) IR.Source_look_at :=
  (dss_cons (s_expr (meth_ T.mn_need v_ (a_ v_ da_nil)))
  (dss_cons (s_set (ix_ (fld_ T.fn_Source_stands v_) v_))
  (dss_cons (ds_ret (ptl_ T.z_tuple (de_fz (lc_ [("key", 5)] (di_seq (de_fz (bi_ b_sortd T.z_sorted (a_ v_ da_nil)))) (fun _ _ _ _ _ => g_) (fun _ _ _ _ _ => (dts_one (chnT k_le k_lt v_ v_ v_))) (fun _ _ _ _ _ => (de_tup (a_ v_ (a_ (ix_ v_ v_) da_nil)))) (blkOk_by (N := n_Source_look_at) (sc := defScope s_Source_look_at) (by decide +kernel))))))
  dss_nil)))
theorem bd_Source_ask (T : Txt L mg) : DSs L gm n (cxOf (L2.CX P w) P w L.K mg base n_Source_ask "Source.ask" (defScope s_Source_ask) (L.FA 26) cdv A outer s H E) (defBody s_Source_ask) IR.Source_ask :=
  (dss_cons (s_put T.fn_Source_many_asks (o_add (fld_ T.fn_Source_many_asks v_) de_int) v_)
  (dss_cons (s_put T.fn_Source_many_keys (o_sub (o_add (fld_ T.fn_Source_many_keys v_) v_) v_) v_)
  (dss_cons (ds_ret (meth_ T.mn_look v_ (a_ v_ (a_ v_ da_nil))))
  dss_nil)))
theorem bd_Source_told (T : Txt L mg) : DSs L gm n (cxOf (L2.CX P w) P w L.K mg base n_Source_told "Source.told" (defScope s_Source_told) (L.FA 27) cdv A outer s H E) (defBody s_Source_told) IR.Source_told :=
  (dss_cons (ds_ret (de_tup (a_ (fld_ T.fn_Source_many_asks v_) (a_ (fld_ T.fn_Source_many_keys v_) da_nil))))
  dss_nil)
theorem bd_Source_put (T : Txt L mg) : DSs L gm n (cxOf (L2.CX P w) P w L.K mg base n_Source_put "Source.put" (defScope s_Source_put) (L.FA 28) cdv A outer s H E) (defBody s_Source_put) IR.Source_put :=
  (dss_cons (s_set (bi_ b_dict T.z_dict (a_ (ix_ (fld_ T.fn_Source_stands v_) (de_neg de_int)) da_nil)))
  (dss_cons (s_sub v_ v_ v_)
  (dss_cons (s_expr (bm_ m_append (fld_ T.fn_Source_stands v_) (a_ (de_fz v_) da_nil)))
  (dss_cons (s_expr (bm_ m_append (fld_ T.fn_Source_changed v_) (a_ v_ da_nil)))
  dss_nil))))
theorem bd_Source_drop (T : Txt L mg) : DSs L gm n (cxOf (L2.CX P w) P w L.K mg base n_Source_drop "Source.drop" (defScope s_Source_drop) (L.FA 29) cdv A outer s H E) (defBody s_Source_drop) IR.Source_drop :=
  (dss_cons (s_set (bi_ b_dict T.z_dict (a_ (ix_ (fld_ T.fn_Source_stands v_) (de_neg de_int)) da_nil)))
  (dss_cons (s_expr (dpop2_ v_ v_ de_non))
  (dss_cons (s_expr (bm_ m_append (fld_ T.fn_Source_stands v_) (a_ (de_fz v_) da_nil)))
  (dss_cons (s_expr (bm_ m_append (fld_ T.fn_Source_changed v_) (a_ v_ da_nil)))
  dss_nil))))
theorem bd_Source_changes_since (T : Txt L mg) : DSs L gm n (cxOf (L2.CX P w) P w L.K mg base n_Source_changes_since "Source.changes_since" (defScope s_Source_changes_since) (L.FA 30) cdv A outer s H E) (defBody s_Source_changes_since) IR.Source_changes_since :=
  (dss_cons (s_expr (meth_ T.mn_need v_ (a_ v_ da_nil)))
  (dss_cons (ds_ret (f_ T.g_spread_by (a_ (de_fz (de_cut (fld_ T.fn_Source_changed v_) (do_some v_) do_none)) da_nil)))
  dss_nil))
theorem bd_law_draw (T : Txt L mg) : DSs L gm n (cxOf (L2.CX P w) P w L.K mg base n_law_draw "_law_draw" (defScope s_law_draw) (L.FA 102) cdv A outer s H E) (defBody s_law_draw) IR.law_draw_k18 :=
  (dss_cons (s_expr (bm_ m_append v_ (a_ de_int da_nil)))
  (dss_cons (s_set (bi_ b_len T.z_len (a_ v_ da_nil)))
  (dss_cons (s_set de_int)
  (dss_cons (ds_if (tv v_) (dss_cons (s_set (ix_ v_ (o_mod v_ (bi_ b_len T.z_len (a_ v_ da_nil)))))
  dss_nil) dss_nil)
  (dss_cons (s_set (o_mod (o_add v_ (o_mul de_int v_)) de_int))
  (dss_cons (s_set (o_mod (o_mul (o_mod (o_mul v_ v_) de_int) de_int) de_int))
  (dss_cons (s_set (o_mod (o_mul (o_mod (o_mul v_ v_) de_int) de_int) de_int))
  (dss_cons (ds_ret (o_mod (o_add (o_mul (o_fdiv v_ de_int) de_int) (o_fdiv v_ de_int)) v_))
  dss_nil))))))))
theorem bd_law_pick (T : Txt L mg) : DSs L gm n (cxOf (L2.CX P w) P w L.K mg base n_law_pick "_law_pick" (defScope s_law_pick) (L.FA 103) cdv A outer s H E) (defBody s_law_pick) IR.law_pick :=
  (dss_cons (ds_ret (ix_ v_ (f_ T.g_law_draw (a_ v_ (a_ v_ (a_ (bi_ b_len T.z_len (a_ v_ da_nil)) da_nil))))))
  dss_nil)
theorem bd_law_rows (T : Txt L mg) : DSs L gm n (cxOf (L2.CX P w) P w L.K mg base n_law_rows "_law_rows" (defScope s_law_rows) (L.FA 115) cdv A outer s H E) (defBody s_law_rows) IR.law_rows_k22 :=
  (dss_cons (s_set de_dnew)
  (dss_cons (s_for (ir1_ T.z_range (f_ T.g_law_draw (a_ v_ (a_ v_ (a_ de_int da_nil))))) g_ (dss_cons (s_sub (f_ T.g_law_draw (a_ v_ (a_ v_ (a_ de_int da_nil)))) v_ (f_ T.g_law_draw (a_ v_ (a_ v_ (a_ de_int da_nil)))))
  dss_nil))
  (dss_cons (ds_ret v_)
  dss_nil)))
theorem bd_law_window (T : Txt L mg) : DSs L gm n (cxOf (L2.CX P w) P w L.K mg base n_law_window "_law_window" (defScope s_law_window) (L.FA 108) cdv A outer s H E) (defBody s_law_window) IR.law_window_k22 :=
  (dss_cons (s_set (f_ T.g_law_draw (a_ v_ (a_ v_ (a_ de_int da_nil)))))
  (dss_cons (ds_ret (de_tup (a_ v_ (a_ (o_add (o_add v_ de_int) (f_ T.g_law_draw (a_ v_ (a_ v_ (a_ (bi_ b_min2 T.z_min (a_ (o_sub de_int v_) (a_ (f_ T.g_law_pick (a_ v_ (a_ v_ (a_ (de_lst (a_ de_int (a_ de_int (a_ de_int da_nil)))) da_nil)))) da_nil))) da_nil))))) da_nil))))
  dss_nil))
theorem bd_law_change (T : Txt L mg) : DSs L gm n (cxOf (L2.CX P w) P w L.K mg base n_law_change "_law_change" (defScope s_law_change) (L.FA 117) cdv A outer s H E) (defBody s_law_change) IR.law_change_k22 :=
  (dss_cons (s_set (f_ T.g_law_pick (a_ v_ (a_ v_ (a_ (de_fz (o_add (de_fz (bi_ b_sortd T.z_sorted (a_ v_ da_nil))) (de_fz (de_lst (a_ (f_ T.g_law_draw (a_ v_ (a_ v_ (a_ de_int da_nil)))) da_nil))))) da_nil)))))
  (dss_cons (ds_if (eqT (f_ T.g_law_draw (a_ v_ (a_ v_ (a_ de_int da_nil)))) de_int) (dss_cons (s_expr (meth_ T.mn_drop v_ (a_ v_ da_nil)))
  (dss_cons (s_expr (dpop2_ v_ v_ de_non))
  dss_nil)) (dss_cons (s_sub (f_ T.g_law_draw (a_ v_ (a_ v_ (a_ de_int da_nil)))) v_ v_)
  (dss_cons (s_expr (meth_ T.mn_put v_ (a_ v_ (a_ (ix_ v_ v_) da_nil))))
  dss_nil)))
  dss_nil))
theorem bd_law_paged (T : Txt L mg) : DSs L gm n (cxOf (L2.CX P w) P w L.K mg base n_law_paged "_law_paged" (defScope s_law_paged) (L.FA 187) cdv A outer s H E) (defBody s_law_paged) ir_law_paged :=
  (dss_cons (s_par2 (a_ de_int (a_ v_ da_nil)))
  (dss_cons (ds_while (dt_w (dw_and (dt_notn v_) (dw_and1 (cmpT k_lt v_ v_)))) (dss_cons (s_tset (meth_ T.mn_page v_ (a_ v_ (a_ de_int da_nil))) (gt_ (gs_ g_ (gs_ g_ dgs_nil))))
  (dss_cons (s_set (o_add v_ (bi_ b_sum T.z_sum (a_ (de_fz (lc_ [("_law_key", 6), ("_law_worth", 7)] (di_seq v_) (fun _ _ _ _ _ => (gt_ (gs_ g_ (gs_ g_ dgs_nil)))) (fun _ _ _ _ _ => (dts_one (cmpT k_lt v_ v_))) (fun _ _ _ _ _ => v_) (blkOk_by (N := n_law_paged) (sc := defScope s_law_paged) (by decide +kernel)))) da_nil))))
  dss_nil)))
  (dss_cons (ds_ret v_)
  dss_nil)))
theorem bd_law_kept_stands (T : Txt L mg) : DSs L gm n (cxOf (L2.CX P w) P w L.K mg base n_law_kept_stands "_law_kept_stands" (defScope s_law_kept_stands) (L.FA 188) cdv A outer s H E) (defBody s_law_kept_stands) ir_law_kept_stands :=
  (dss_cons (s_for (di_seq v_) (gt_ (gs_ g_ (gs_ g_ (gs_ g_ dgs_nil)))) (dss_cons (ds_if (tninT (dky_tup (a_ v_ (a_ v_ da_nil))) v_) (dss_cons (ds_ret de_bl)
  dss_nil) dss_nil)
  (dss_cons (s_set (de_wk (meth_ T.mn_look_at v_ (a_ (de_ixt v_ (dky_tup (a_ v_ (a_ v_ da_nil))) (fun _ _ => rfl)) (a_ v_ (a_ v_ da_nil))))))
  (dss_cons (ds_if (dt_w (dw_or (neT v_ (de_wk (meth_ T.mn_look v_ (a_ v_ (a_ v_ da_nil))))) (dw_or1 (neT (bi_ b_sum T.z_sum (a_ (de_fz (lc_ [("_law_key", 7), ("_law_worth", 8)] (di_seq v_) (fun _ _ _ _ _ => (gt_ (gs_ g_ (gs_ g_ dgs_nil)))) (fun _ _ _ _ _ => dts_nil) (fun _ _ _ _ _ => v_) (blkOk_by (N := n_law_kept_stands) (sc := defScope s_law_kept_stands) (by decide +kernel)))) da_nil)) v_)))) (dss_cons (ds_ret de_bl)
  dss_nil) dss_nil)
  dss_nil))))
  (dss_cons (ds_ret de_bl)
  dss_nil))
theorem bd_law (T : Txt L mg) : DSs L gm n (cxOf (L2.CX P w) P w L.K mg base n_law "law" (defScope s_law) (L.FA 112) cdv A outer s H E) (defBody s_law) ir_law :=
  (dss_cons (s_set (de_lst da_nil))
  (dss_cons (s_for (ir1_ T.z_range de_int) g_ (dss_cons (s_set (f_ T.g_law_rows (a_ v_ (a_ v_ da_nil))))
  (dss_cons (s_set (make_ T.cl_Source (a_ (ptl_ T.z_tuple (de_fz (sitems_ T.z_sorted v_))) da_nil)))
  (dss_cons (s_par3 (a_ (make_ T.cl_Keeper (a_ v_ (a_ (f_ T.g_law_pick (a_ v_ (a_ v_ (a_ (de_fz (de_lst (a_ de_int (a_ de_int (a_ de_int da_nil))))) da_nil)))) (a_ de_int da_nil)))) (a_ (make_ T.cl_Summer (a_ v_ da_nil)) (a_ de_dnt da_nil))))
  (dss_cons (s_for (ir1_ T.z_range de_int) g_ (dss_cons (s_for (ir1_ T.z_range (f_ T.g_law_pick (a_ v_ (a_ v_ (a_ (de_fz (de_lst (a_ de_int (a_ de_int (a_ de_int (a_ de_int da_nil)))))) da_nil))))) g_ (dss_cons (s_expr (f_ T.g_law_change (a_ v_ (a_ v_ (a_ v_ (a_ v_ da_nil))))))
  dss_nil))
  (dss_cons (s_tset (f_ T.g_law_window (a_ v_ (a_ v_ da_nil))) (gt_ (gs_ g_ (gs_ g_ dgs_nil))))
  (dss_cons (s_expr (meth0_ T.mn_hear v_))
  (dss_cons (s_par2 (a_ (meth0_ T.mn_sums v_) (a_ (ix_ (meth0_ T.mn_told v_) de_int) da_nil)))
  (dss_cons (s_set (meth0_ T.mn_asked v_))
  (dss_cons (s_set (meth_ T.mn_ask v_ (a_ v_ (a_ v_ da_nil))))
  (dss_cons (ds_if (neT (o_sub (ix_ (meth0_ T.mn_told v_) de_int) v_) (o_sub (meth0_ T.mn_asked v_) v_)) (dss_cons (ds_ret de_bl)
  dss_nil) dss_nil)
  (dss_cons (ds_if (neT v_ (bi_ b_sum T.z_sum (a_ (de_fz (lc_ [("_law_key", 17), ("_law_worth", 18)] (di_seq (meth_ T.mn_ask v_ (a_ v_ (a_ v_ da_nil)))) (fun _ _ _ _ _ => (gt_ (gs_ g_ (gs_ g_ dgs_nil)))) (fun _ _ _ _ _ => dts_nil) (fun _ _ _ _ _ => v_) (blkOk_by (N := n_law) (sc := defScope s_law) (by decide +kernel)))) da_nil))) (dss_cons (ds_ret de_bl)
  dss_nil) dss_nil)
  (dss_cons (ds_if (neT v_ (f_ T.g_law_paged (a_ v_ (a_ v_ (a_ v_ da_nil))))) (dss_cons (ds_ret de_bl)
  dss_nil) dss_nil)
  (dss_cons (s_for (di_seq (meth0_ T.mn_sums v_)) g_ (dss_cons (ds_if (ndinT v_ v_) (dss_cons (subt_ v_ (dky_cut v_) (meth0_ T.mn_clock v_))
  dss_nil) dss_nil)
  dss_nil))
  (dss_cons (ds_if (dt_not (tv (f_ T.g_law_kept_stands (a_ v_ (a_ v_ (a_ (meth0_ T.mn_sums v_) da_nil)))))) (dss_cons (ds_ret de_bl)
  dss_nil) dss_nil)
  (dss_cons (s_for (di_seq (meth0_ T.mn_sums v_)) g_ (dss_cons (ds_if (dt_notn (f_ T.g_holds_to (a_ v_ (a_ (de_ixt v_ (dky_cut v_) (fun _ _ => rfl)) (a_ (ix_ v_ de_int) (a_ (ix_ v_ de_int) da_nil)))))) (dss_cons (ds_ret de_bl)
  dss_nil) dss_nil)
  dss_nil))
  dss_nil)))))))))))))
  dss_nil)))))
  (dss_cons (ds_ret de_bl)
  dss_nil)))
end
theorem all_mk {l : PySem.W.OpenLaw} {w : World} {K : PySem.W.Frag} {h : Heap} {mg : Str → Option Value} {fa f0 f1 f2 f3 f4 f5 f6 f7 f8 f9 f10 f11 f12 f13 f14 f15 f16 f17 f18 f19 f20 f21 f22 f23 f24 f25 f26 f27 f28 f29 f30 f31 f32 f33 f34 f35 f36 f37 f38 f39 f40 f41 f42 C_Source C_Keeper C_Summer X_NoClock : Addr} (X : K.In h) (G : h.Ns mainGlobals mg) (hfa : mg "law" = some (.ref fa))
    {od0 an0 od1 an1 od2 an2 od3 an3 od4 an4 od5 an5 od6 an6 od7 an7 od8 an8 od9 an9 od10 an10 od11 an11 od12 an12 od13 an13 od14 an14 od15 an15 od16 an16 od17 an17 od18 an18 od19 an19 od20 an20 od21 an21 od22 an22 od23 an23 od24 an24 od25 an25 od26 an26 od27 an27 od28 an28 od29 an29 od30 an30 od31 an31 od32 an32 od33 an33 od34 an34 od35 an35 od36 an36 od37 an37 od38 an38 od39 an39 od40 an40 od41 an41 od42 an42 : Option Addr} {sl0 sl1 sl2 sl3 sl4 sl5 sl6 sl7 sl8 sl9 sl10 sl11 sl12 sl13 sl14 sl15 sl16 sl17 sl18 sl19 sl20 sl21 sl22 sl23 sl24 sl25 sl26 sl27 sl28 sl29 sl30 sl31 sl32 sl33 sl34 sl35 sl36 sl37 sl38 sl39 sl40 sl41 sl42 : Array (Option Value)} {oc0 kV0 dc0 pm0 cd0 ct0 oc1 kV1 dc1 pm1 cd1 ct1 oc2 kV2 dc2 pm2 cd2 ct2 oc3 kV3 dc3 pm3 cd3 ct3 oc4 kV4 dc4 pm4 cd4 ct4 oc5 kV5 dc5 pm5 cd5 ct5 oc6 kV6 dc6 pm6 cd6 ct6 oc7 kV7 dc7 pm7 cd7 ct7 oc8 kV8 dc8 pm8 cd8 ct8 oc9 kV9 dc9 pm9 cd9 ct9 oc10 kV10 dc10 pm10 cd10 ct10 oc11 kV11 dc11 pm11 cd11 ct11 oc12 kV12 dc12 pm12 cd12 ct12 oc13 kV13 dc13 pm13 cd13 ct13 oc14 kV14 dc14 pm14 cd14 ct14 oc15 kV15 dc15 pm15 cd15 ct15 oc16 kV16 dc16 pm16 cd16 ct16 oc17 kV17 dc17 pm17 cd17 ct17 oc18 kV18 dc18 pm18 cd18 ct18 oc19 kV19 dc19 pm19 cd19 ct19 oc20 kV20 dc20 pm20 cd20 ct20 oc21 kV21 dc21 pm21 cd21 ct21 oc22 kV22 dc22 pm22 cd22 ct22 oc23 kV23 dc23 pm23 cd23 ct23 oc24 kV24 dc24 pm24 cd24 ct24 oc25 kV25 dc25 pm25 cd25 ct25 oc26 kV26 dc26 pm26 cd26 ct26 oc27 kV27 dc27 pm27 cd27 ct27 oc28 kV28 dc28 pm28 cd28 ct28 oc29 kV29 dc29 pm29 cd29 ct29 oc30 kV30 dc30 pm30 cd30 ct30 oc31 kV31 dc31 pm31 cd31 ct31 oc32 kV32 dc32 pm32 cd32 ct32 oc33 kV33 dc33 pm33 cd33 ct33 oc34 kV34 dc34 pm34 cd34 ct34 oc35 kV35 dc35 pm35 cd35 ct35 oc36 kV36 dc36 pm36 cd36 ct36 oc37 kV37 dc37 pm37 cd37 ct37 oc38 kV38 dc38 pm38 cd38 ct38 oc39 kV39 dc39 pm39 cd39 ct39 oc40 kV40 dc40 pm40 cd40 ct40 oc41 kV41 dc41 pm41 cd41 ct41 oc42 kV42 dc42 pm42 cd42 ct42 : Value}
    (aC_Source : PySem.W.nsIn K mainGlobals "Source" = some (some (.ref C_Source)))
    (aC_Keeper : PySem.W.nsIn K mainGlobals "Keeper" = some (some (.ref C_Keeper)))
    (aC_Summer : PySem.W.nsIn K mainGlobals "Summer" = some (some (.ref C_Summer)))
    (a0 : PySem.W.findIn K (.ref C_Summer) "__init__" = some (some (.ref f0))) (i0 : PySem.W.isFn K (.ref f0) = true)
    (l0 : K.lookup f0 = some ⟨oc0, od0, .func (PySem.W.fnOf "__init__" "Summer.__init__" (defArgs s_Summer___init__) (defBody s_Summer___init__) (defScope s_Summer___init__) .none kV0 dc0 pm0 an0 cd0 ct0), sl0⟩) (c0 : PySem.W.codeIn K cd0 "Summer.__init__" = true) (k0 : PySem.W.keepIn K (.ref f0) = true)
    (a1 : PySem.W.findIn K (.ref C_Summer) "sums" = some (some (.ref f1))) (i1 : PySem.W.isFn K (.ref f1) = true)
    (l1 : K.lookup f1 = some ⟨oc1, od1, .func (PySem.W.fnOf "sums" "Summer.sums" (defArgs s_Summer_sums) (defBody s_Summer_sums) (defScope s_Summer_sums) .none kV1 dc1 pm1 an1 cd1 ct1), sl1⟩) (c1 : PySem.W.codeIn K cd1 "Summer.sums" = true) (k1 : PySem.W.keepIn K (.ref f1) = true)
    (a2 : PySem.W.findIn K (.ref C_Summer) "asked" = some (some (.ref f2))) (i2 : PySem.W.isFn K (.ref f2) = true)
    (l2 : K.lookup f2 = some ⟨oc2, od2, .func (PySem.W.fnOf "asked" "Summer.asked" (defArgs s_Summer_asked) (defBody s_Summer_asked) (defScope s_Summer_asked) .none kV2 dc2 pm2 an2 cd2 ct2), sl2⟩) (c2 : PySem.W.codeIn K cd2 "Summer.asked" = true) (k2 : PySem.W.keepIn K (.ref f2) = true)
    (a3 : PySem.W.findIn K (.ref C_Summer) "hear" = some (some (.ref f3))) (i3 : PySem.W.isFn K (.ref f3) = true)
    (l3 : K.lookup f3 = some ⟨oc3, od3, .func (PySem.W.fnOf "hear" "Summer.hear" (defArgs s_Summer_hear) (defBody s_Summer_hear) (defScope s_Summer_hear) .none kV3 dc3 pm3 an3 cd3 ct3), sl3⟩) (c3 : PySem.W.codeIn K cd3 "Summer.hear" = true) (k3 : PySem.W.keepIn K (.ref f3) = true)
    (a4 : PySem.W.findIn K (.ref C_Summer) "follows" = some (some (.ref f4))) (i4 : PySem.W.isFn K (.ref f4) = true)
    (l4 : K.lookup f4 = some ⟨oc4, od4, .func (PySem.W.fnOf "follows" "Summer.follows" (defArgs s_Summer_follows) (defBody s_Summer_follows) (defScope s_Summer_follows) .none kV4 dc4 pm4 an4 cd4 ct4), sl4⟩) (c4 : PySem.W.codeIn K cd4 "Summer.follows" = true) (k4 : PySem.W.keepIn K (.ref f4) = true)
    (a5 : PySem.W.findIn K (.ref C_Summer) "ask" = some (some (.ref f5))) (i5 : PySem.W.isFn K (.ref f5) = true)
    (l5 : K.lookup f5 = some ⟨oc5, od5, .func (PySem.W.fnOf "ask" "Summer.ask" (defArgs s_Summer_ask) (defBody s_Summer_ask) (defScope s_Summer_ask) .none kV5 dc5 pm5 an5 cd5 ct5), sl5⟩) (c5 : PySem.W.codeIn K cd5 "Summer.ask" = true) (k5 : PySem.W.keepIn K (.ref f5) = true)
    (a6 : PySem.W.nsIn K mainGlobals "touches" = some (some (.ref f6)))
    (l6 : K.lookup f6 = some ⟨oc6, od6, .func (PySem.W.fnOf "touches" "touches" (defArgs s_touches) (defBody s_touches) (defScope s_touches) .none kV6 dc6 pm6 an6 cd6 ct6), sl6⟩) (c6 : PySem.W.codeIn K cd6 "touches" = true) (k6 : PySem.W.keepIn K (.ref f6) = true)
    (a7 : PySem.W.nsIn K mainGlobals "holds_to" = some (some (.ref f7)))
    (l7 : K.lookup f7 = some ⟨oc7, od7, .func (PySem.W.fnOf "holds_to" "holds_to" (defArgs s_holds_to) (defBody s_holds_to) (defScope s_holds_to) .none kV7 dc7 pm7 an7 cd7 ct7), sl7⟩) (c7 : PySem.W.codeIn K cd7 "holds_to" = true) (k7 : PySem.W.keepIn K (.ref f7) = true)
    (a8 : PySem.W.nsIn K mainGlobals "spread_of" = some (some (.ref f8)))
    (l8 : K.lookup f8 = some ⟨oc8, od8, .func (PySem.W.fnOf "spread_of" "spread_of" (defArgs s_spread_of) (defBody s_spread_of) (defScope s_spread_of) .none kV8 dc8 pm8 an8 cd8 ct8), sl8⟩) (c8 : PySem.W.codeIn K cd8 "spread_of" = true) (k8 : PySem.W.keepIn K (.ref f8) = true)
    (a9 : PySem.W.nsIn K mainGlobals "spread_by" = some (some (.ref f9)))
    (l9 : K.lookup f9 = some ⟨oc9, od9, .func (PySem.W.fnOf "spread_by" "spread_by" (defArgs s_spread_by) (defBody s_spread_by) (defScope s_spread_by) .none kV9 dc9 pm9 an9 cd9 ct9), sl9⟩) (c9 : PySem.W.codeIn K cd9 "spread_by" = true) (k9 : PySem.W.keepIn K (.ref f9) = true)
    (a10 : PySem.W.nsIn K mainGlobals "keys_of" = some (some (.ref f10)))
    (l10 : K.lookup f10 = some ⟨oc10, od10, .func (PySem.W.fnOf "keys_of" "keys_of" (defArgs s_keys_of) (defBody s_keys_of) (defScope s_keys_of) .none kV10 dc10 pm10 an10 cd10 ct10), sl10⟩) (c10 : PySem.W.codeIn K cd10 "keys_of" = true) (k10 : PySem.W.keepIn K (.ref f10) = true)
    (a11 : PySem.W.nsIn K mainGlobals "met" = some (some (.ref f11)))
    (l11 : K.lookup f11 = some ⟨oc11, od11, .func (PySem.W.fnOf "met" "met" (defArgs s_met) (defBody s_met) (defScope s_met) .none kV11 dc11 pm11 an11 cd11 ct11), sl11⟩) (c11 : PySem.W.codeIn K cd11 "met" = true) (k11 : PySem.W.keepIn K (.ref f11) = true)
    (a12 : PySem.W.nsIn K mainGlobals "turned_out" = some (some (.ref f12)))
    (l12 : K.lookup f12 = some ⟨oc12, od12, .func (PySem.W.fnOf "turned_out" "turned_out" (defArgs s_turned_out) (defBody s_turned_out) (defScope s_turned_out) .none kV12 dc12 pm12 an12 cd12 ct12), sl12⟩) (c12 : PySem.W.codeIn K cd12 "turned_out" = true) (k12 : PySem.W.keepIn K (.ref f12) = true)
    (a13 : PySem.W.nsIn K mainGlobals "lacking" = some (some (.ref f13)))
    (l13 : K.lookup f13 = some ⟨oc13, od13, .func (PySem.W.fnOf "lacking" "lacking" (defArgs s_lacking) (defBody s_lacking) (defScope s_lacking) .none kV13 dc13 pm13 an13 cd13 ct13), sl13⟩) (c13 : PySem.W.codeIn K cd13 "lacking" = true) (k13 : PySem.W.keepIn K (.ref f13) = true)
    (a14 : PySem.W.nsIn K mainGlobals "asks" = some (some (.ref f14)))
    (l14 : K.lookup f14 = some ⟨oc14, od14, .func (PySem.W.fnOf "asks" "asks" (defArgs s_asks) (defBody s_asks) (defScope s_asks) .none kV14 dc14 pm14 an14 cd14 ct14), sl14⟩) (c14 : PySem.W.codeIn K cd14 "asks" = true) (k14 : PySem.W.keepIn K (.ref f14) = true)
    (a15 : PySem.W.findIn K (.ref C_Keeper) "__init__" = some (some (.ref f15))) (i15 : PySem.W.isFn K (.ref f15) = true)
    (l15 : K.lookup f15 = some ⟨oc15, od15, .func (PySem.W.fnOf "__init__" "Keeper.__init__" (defArgs s_Keeper___init__) (defBody s_Keeper___init__) (defScope s_Keeper___init__) .none kV15 dc15 pm15 an15 cd15 ct15), sl15⟩) (c15 : PySem.W.codeIn K cd15 "Keeper.__init__" = true) (k15 : PySem.W.keepIn K (.ref f15) = true)
    (a16 : PySem.W.findIn K (.ref C_Keeper) "known" = some (some (.ref f16))) (i16 : PySem.W.isFn K (.ref f16) = true)
    (l16 : K.lookup f16 = some ⟨oc16, od16, .func (PySem.W.fnOf "known" "Keeper.known" (defArgs s_Keeper_known) (defBody s_Keeper_known) (defScope s_Keeper_known) .none kV16 dc16 pm16 an16 cd16 ct16), sl16⟩) (c16 : PySem.W.codeIn K cd16 "Keeper.known" = true) (k16 : PySem.W.keepIn K (.ref f16) = true)
    (a17 : PySem.W.findIn K (.ref C_Keeper) "forget" = some (some (.ref f17))) (i17 : PySem.W.isFn K (.ref f17) = true)
    (l17 : K.lookup f17 = some ⟨oc17, od17, .func (PySem.W.fnOf "forget" "Keeper.forget" (defArgs s_Keeper_forget) (defBody s_Keeper_forget) (defScope s_Keeper_forget) .none kV17 dc17 pm17 an17 cd17 ct17), sl17⟩) (c17 : PySem.W.codeIn K cd17 "Keeper.forget" = true) (k17 : PySem.W.keepIn K (.ref f17) = true)
    (a18 : PySem.W.findIn K (.ref C_Keeper) "hear" = some (some (.ref f18))) (i18 : PySem.W.isFn K (.ref f18) = true)
    (l18 : K.lookup f18 = some ⟨oc18, od18, .func (PySem.W.fnOf "hear" "Keeper.hear" (defArgs s_Keeper_hear) (defBody s_Keeper_hear) (defScope s_Keeper_hear) .none kV18 dc18 pm18 an18 cd18 ct18), sl18⟩) (c18 : PySem.W.codeIn K cd18 "Keeper.hear" = true) (k18 : PySem.W.keepIn K (.ref f18) = true)
    (a19 : PySem.W.findIn K (.ref C_Keeper) "take" = some (some (.ref f19))) (i19 : PySem.W.isFn K (.ref f19) = true)
    (l19 : K.lookup f19 = some ⟨oc19, od19, .func (PySem.W.fnOf "take" "Keeper.take" (defArgs s_Keeper_take) (defBody s_Keeper_take) (defScope s_Keeper_take) .none kV19 dc19 pm19 an19 cd19 ct19), sl19⟩) (c19 : PySem.W.codeIn K cd19 "Keeper.take" = true) (k19 : PySem.W.keepIn K (.ref f19) = true)
    (a20 : PySem.W.findIn K (.ref C_Keeper) "shrink" = some (some (.ref f20))) (i20 : PySem.W.isFn K (.ref f20) = true)
    (l20 : K.lookup f20 = some ⟨oc20, od20, .func (PySem.W.fnOf "shrink" "Keeper.shrink" (defArgs s_Keeper_shrink) (defBody s_Keeper_shrink) (defScope s_Keeper_shrink) .none kV20 dc20 pm20 an20 cd20 ct20), sl20⟩) (c20 : PySem.W.codeIn K cd20 "Keeper.shrink" = true) (k20 : PySem.W.keepIn K (.ref f20) = true)
    (a21 : PySem.W.findIn K (.ref C_Keeper) "told" = some (some (.ref f21))) (i21 : PySem.W.isFn K (.ref f21) = true)
    (l21 : K.lookup f21 = some ⟨oc21, od21, .func (PySem.W.fnOf "told" "Keeper.told" (defArgs s_Keeper_told) (defBody s_Keeper_told) (defScope s_Keeper_told) .none kV21 dc21 pm21 an21 cd21 ct21), sl21⟩) (c21 : PySem.W.codeIn K cd21 "Keeper.told" = true) (k21 : PySem.W.keepIn K (.ref f21) = true)
    (a22 : PySem.W.findIn K (.ref C_Keeper) "plan" = some (some (.ref f22))) (i22 : PySem.W.isFn K (.ref f22) = true)
    (l22 : K.lookup f22 = some ⟨oc22, od22, .func (PySem.W.fnOf "plan" "Keeper.plan" (defArgs s_Keeper_plan) (defBody s_Keeper_plan) (defScope s_Keeper_plan) .none kV22 dc22 pm22 an22 cd22 ct22), sl22⟩) (c22 : PySem.W.codeIn K cd22 "Keeper.plan" = true) (k22 : PySem.W.keepIn K (.ref f22) = true)
    (a23 : PySem.W.findIn K (.ref C_Keeper) "ask" = some (some (.ref f23))) (i23 : PySem.W.isFn K (.ref f23) = true)
    (l23 : K.lookup f23 = some ⟨oc23, od23, .func (PySem.W.fnOf "ask" "Keeper.ask" (defArgs s_Keeper_ask) (defBody s_Keeper_ask) (defScope s_Keeper_ask) .none kV23 dc23 pm23 an23 cd23 ct23), sl23⟩) (c23 : PySem.W.codeIn K cd23 "Keeper.ask" = true) (k23 : PySem.W.keepIn K (.ref f23) = true)
    (a24 : PySem.W.findIn K (.ref C_Keeper) "page" = some (some (.ref f24))) (i24 : PySem.W.isFn K (.ref f24) = true)
    (l24 : K.lookup f24 = some ⟨oc24, od24, .func (PySem.W.fnOf "page" "Keeper.page" (defArgs s_Keeper_page) (defBody s_Keeper_page) (defScope s_Keeper_page) .none kV24 dc24 pm24 an24 cd24 ct24), sl24⟩) (c24 : PySem.W.codeIn K cd24 "Keeper.page" = true) (k24 : PySem.W.keepIn K (.ref f24) = true)
    (a25 : PySem.W.findIn K (.ref C_Source) "__init__" = some (some (.ref f25))) (i25 : PySem.W.isFn K (.ref f25) = true)
    (l25 : K.lookup f25 = some ⟨oc25, od25, .func (PySem.W.fnOf "__init__" "Source.__init__" (defArgs s_Source___init__) (defBody s_Source___init__) (defScope s_Source___init__) .none kV25 dc25 pm25 an25 cd25 ct25), sl25⟩) (c25 : PySem.W.codeIn K cd25 "Source.__init__" = true) (k25 : PySem.W.keepIn K (.ref f25) = true)
    (a26 : PySem.W.findIn K (.ref C_Source) "clock" = some (some (.ref f26))) (i26 : PySem.W.isFn K (.ref f26) = true)
    (l26 : K.lookup f26 = some ⟨oc26, od26, .func (PySem.W.fnOf "clock" "Source.clock" (defArgs s_Source_clock) (defBody s_Source_clock) (defScope s_Source_clock) .none kV26 dc26 pm26 an26 cd26 ct26), sl26⟩) (c26 : PySem.W.codeIn K cd26 "Source.clock" = true) (k26 : PySem.W.keepIn K (.ref f26) = true)
    (a27 : PySem.W.findIn K (.ref C_Source) "need" = some (some (.ref f27))) (i27 : PySem.W.isFn K (.ref f27) = true)
    (l27 : K.lookup f27 = some ⟨oc27, od27, .func (PySem.W.fnOf "need" "Source.need" (defArgs s_Source_need) (defBody s_Source_need) (defScope s_Source_need) .none kV27 dc27 pm27 an27 cd27 ct27), sl27⟩) (c27 : PySem.W.codeIn K cd27 "Source.need" = true) (k27 : PySem.W.keepIn K (.ref f27) = true)
    (a28 : PySem.W.findIn K (.ref C_Source) "look" = some (some (.ref f28))) (i28 : PySem.W.isFn K (.ref f28) = true)
    (l28 : K.lookup f28 = some ⟨oc28, od28, .func (PySem.W.fnOf "look" "Source.look" (defArgs s_Source_look) (defBody s_Source_look) (defScope s_Source_look) .none kV28 dc28 pm28 an28 cd28 ct28), sl28⟩) (c28 : PySem.W.codeIn K cd28 "Source.look" = true) (k28 : PySem.W.keepIn K (.ref f28) = true)
    (a29 : PySem.W.findIn K (.ref C_Source) "look_at" = some (some (.ref f29))) (i29 : PySem.W.isFn K (.ref f29) = true)
    (l29 : K.lookup f29 = some ⟨oc29, od29, .func (PySem.W.fnOf "look_at" "Source.look_at" (defArgs s_Source_look_at) (defBody s_Source_look_at) (defScope s_Source_look_at) .none kV29 dc29 pm29 an29 cd29 ct29), sl29⟩) (c29 : PySem.W.codeIn K cd29 "Source.look_at" = true) (k29 : PySem.W.keepIn K (.ref f29) = true)
    (a30 : PySem.W.findIn K (.ref C_Source) "ask" = some (some (.ref f30))) (i30 : PySem.W.isFn K (.ref f30) = true)
    (l30 : K.lookup f30 = some ⟨oc30, od30, .func (PySem.W.fnOf "ask" "Source.ask" (defArgs s_Source_ask) (defBody s_Source_ask) (defScope s_Source_ask) .none kV30 dc30 pm30 an30 cd30 ct30), sl30⟩) (c30 : PySem.W.codeIn K cd30 "Source.ask" = true) (k30 : PySem.W.keepIn K (.ref f30) = true)
    (a31 : PySem.W.findIn K (.ref C_Source) "told" = some (some (.ref f31))) (i31 : PySem.W.isFn K (.ref f31) = true)
    (l31 : K.lookup f31 = some ⟨oc31, od31, .func (PySem.W.fnOf "told" "Source.told" (defArgs s_Source_told) (defBody s_Source_told) (defScope s_Source_told) .none kV31 dc31 pm31 an31 cd31 ct31), sl31⟩) (c31 : PySem.W.codeIn K cd31 "Source.told" = true) (k31 : PySem.W.keepIn K (.ref f31) = true)
    (a32 : PySem.W.findIn K (.ref C_Source) "put" = some (some (.ref f32))) (i32 : PySem.W.isFn K (.ref f32) = true)
    (l32 : K.lookup f32 = some ⟨oc32, od32, .func (PySem.W.fnOf "put" "Source.put" (defArgs s_Source_put) (defBody s_Source_put) (defScope s_Source_put) .none kV32 dc32 pm32 an32 cd32 ct32), sl32⟩) (c32 : PySem.W.codeIn K cd32 "Source.put" = true) (k32 : PySem.W.keepIn K (.ref f32) = true)
    (a33 : PySem.W.findIn K (.ref C_Source) "drop" = some (some (.ref f33))) (i33 : PySem.W.isFn K (.ref f33) = true)
    (l33 : K.lookup f33 = some ⟨oc33, od33, .func (PySem.W.fnOf "drop" "Source.drop" (defArgs s_Source_drop) (defBody s_Source_drop) (defScope s_Source_drop) .none kV33 dc33 pm33 an33 cd33 ct33), sl33⟩) (c33 : PySem.W.codeIn K cd33 "Source.drop" = true) (k33 : PySem.W.keepIn K (.ref f33) = true)
    (a34 : PySem.W.findIn K (.ref C_Source) "changes_since" = some (some (.ref f34))) (i34 : PySem.W.isFn K (.ref f34) = true)
    (l34 : K.lookup f34 = some ⟨oc34, od34, .func (PySem.W.fnOf "changes_since" "Source.changes_since" (defArgs s_Source_changes_since) (defBody s_Source_changes_since) (defScope s_Source_changes_since) .none kV34 dc34 pm34 an34 cd34 ct34), sl34⟩) (c34 : PySem.W.codeIn K cd34 "Source.changes_since" = true) (k34 : PySem.W.keepIn K (.ref f34) = true)
    (a35 : PySem.W.nsIn K mainGlobals "_law_draw" = some (some (.ref f35)))
    (l35 : K.lookup f35 = some ⟨oc35, od35, .func (PySem.W.fnOf "_law_draw" "_law_draw" (defArgs s_law_draw) (defBody s_law_draw) (defScope s_law_draw) .none kV35 dc35 pm35 an35 cd35 ct35), sl35⟩) (c35 : PySem.W.codeIn K cd35 "_law_draw" = true) (k35 : PySem.W.keepIn K (.ref f35) = true)
    (a36 : PySem.W.nsIn K mainGlobals "_law_pick" = some (some (.ref f36)))
    (l36 : K.lookup f36 = some ⟨oc36, od36, .func (PySem.W.fnOf "_law_pick" "_law_pick" (defArgs s_law_pick) (defBody s_law_pick) (defScope s_law_pick) .none kV36 dc36 pm36 an36 cd36 ct36), sl36⟩) (c36 : PySem.W.codeIn K cd36 "_law_pick" = true) (k36 : PySem.W.keepIn K (.ref f36) = true)
    (a37 : PySem.W.nsIn K mainGlobals "_law_rows" = some (some (.ref f37)))
    (l37 : K.lookup f37 = some ⟨oc37, od37, .func (PySem.W.fnOf "_law_rows" "_law_rows" (defArgs s_law_rows) (defBody s_law_rows) (defScope s_law_rows) .none kV37 dc37 pm37 an37 cd37 ct37), sl37⟩) (c37 : PySem.W.codeIn K cd37 "_law_rows" = true) (k37 : PySem.W.keepIn K (.ref f37) = true)
    (a38 : PySem.W.nsIn K mainGlobals "_law_window" = some (some (.ref f38)))
    (l38 : K.lookup f38 = some ⟨oc38, od38, .func (PySem.W.fnOf "_law_window" "_law_window" (defArgs s_law_window) (defBody s_law_window) (defScope s_law_window) .none kV38 dc38 pm38 an38 cd38 ct38), sl38⟩) (c38 : PySem.W.codeIn K cd38 "_law_window" = true) (k38 : PySem.W.keepIn K (.ref f38) = true)
    (a39 : PySem.W.nsIn K mainGlobals "_law_change" = some (some (.ref f39)))
    (l39 : K.lookup f39 = some ⟨oc39, od39, .func (PySem.W.fnOf "_law_change" "_law_change" (defArgs s_law_change) (defBody s_law_change) (defScope s_law_change) .none kV39 dc39 pm39 an39 cd39 ct39), sl39⟩) (c39 : PySem.W.codeIn K cd39 "_law_change" = true) (k39 : PySem.W.keepIn K (.ref f39) = true)
    (a40 : PySem.W.nsIn K mainGlobals "_law_paged" = some (some (.ref f40)))
    (l40 : K.lookup f40 = some ⟨oc40, od40, .func (PySem.W.fnOf "_law_paged" "_law_paged" (defArgs s_law_paged) (defBody s_law_paged) (defScope s_law_paged) .none kV40 dc40 pm40 an40 cd40 ct40), sl40⟩) (c40 : PySem.W.codeIn K cd40 "_law_paged" = true) (k40 : PySem.W.keepIn K (.ref f40) = true)
    (a41 : PySem.W.nsIn K mainGlobals "_law_kept_stands" = some (some (.ref f41)))
    (l41 : K.lookup f41 = some ⟨oc41, od41, .func (PySem.W.fnOf "_law_kept_stands" "_law_kept_stands" (defArgs s_law_kept_stands) (defBody s_law_kept_stands) (defScope s_law_kept_stands) .none kV41 dc41 pm41 an41 cd41 ct41), sl41⟩) (c41 : PySem.W.codeIn K cd41 "_law_kept_stands" = true) (k41 : PySem.W.keepIn K (.ref f41) = true)
    (a42 : PySem.W.nsIn K mainGlobals "law" = some (some (.ref f42)))
    (l42 : K.lookup f42 = some ⟨oc42, od42, .func (PySem.W.fnOf "law" "law" (defArgs s_law) (defBody s_law) (defScope s_law) .none kV42 dc42 pm42 an42 cd42 ct42), sl42⟩) (c42 : PySem.W.codeIn K cd42 "law" = true) (k42 : PySem.W.keepIn K (.ref f42) = true)
    (pg_Source : PySem.W.plainGet K C_Source Str.empty = true) (hd_Source : PySem.W.hasDictIn K C_Source = true) (po_Source : PySem.W.plainOver K C_Source = true) (sa_Source : PySem.W.findIn K (.ref C_Source) "__setattr__" = some (some (.builtin "object.__setattr__"))) (mk_Source : PySem.W.makesIn K C_Source = true) (kc_Source : PySem.W.keepIn K (.ref C_Source) = true)
    (no_Source_stands : PySem.W.findIn K (.ref C_Source) "stands" = some none)
    (no_Source_changed : PySem.W.findIn K (.ref C_Source) "changed" = some none)
    (no_Source_many_asks : PySem.W.findIn K (.ref C_Source) "many_asks" = some none)
    (no_Source_many_keys : PySem.W.findIn K (.ref C_Source) "many_keys" = some none)
    (pg_Keeper : PySem.W.plainGet K C_Keeper Str.empty = true) (hd_Keeper : PySem.W.hasDictIn K C_Keeper = true) (po_Keeper : PySem.W.plainOver K C_Keeper = true) (sa_Keeper : PySem.W.findIn K (.ref C_Keeper) "__setattr__" = some (some (.builtin "object.__setattr__"))) (mk_Keeper : PySem.W.makesIn K C_Keeper = true) (kc_Keeper : PySem.W.keepIn K (.ref C_Keeper) = true)
    (no_Keeper_source : PySem.W.findIn K (.ref C_Keeper) "source" = some none)
    (no_Keeper_room : PySem.W.findIn K (.ref C_Keeper) "room" = some none)
    (no_Keeper_cost : PySem.W.findIn K (.ref C_Keeper) "cost" = some none)
    (no_Keeper_heard : PySem.W.findIn K (.ref C_Keeper) "heard" = some none)
    (no_Keeper_turn : PySem.W.findIn K (.ref C_Keeper) "turn" = some none)
    (no_Keeper_stamps : PySem.W.findIn K (.ref C_Keeper) "stamps" = some none)
    (no_Keeper_rows : PySem.W.findIn K (.ref C_Keeper) "rows" = some none)
    (pg_Summer : PySem.W.plainGet K C_Summer Str.empty = true) (hd_Summer : PySem.W.hasDictIn K C_Summer = true) (po_Summer : PySem.W.plainOver K C_Summer = true) (sa_Summer : PySem.W.findIn K (.ref C_Summer) "__setattr__" = some (some (.builtin "object.__setattr__"))) (mk_Summer : PySem.W.makesIn K C_Summer = true) (kc_Summer : PySem.W.keepIn K (.ref C_Summer) = true)
    (no_Summer_source : PySem.W.findIn K (.ref C_Summer) "source" = some none)
    (no_Summer_heard : PySem.W.findIn K (.ref C_Summer) "heard" = some none)
    (no_Summer_kept : PySem.W.findIn K (.ref C_Summer) "kept" = some none)
    (no_Summer_many : PySem.W.findIn K (.ref C_Summer) "many" = some none)
    (aX_NoClock : PySem.W.nsIn K mainGlobals "NoClock" = some (some (.ref X_NoClock))) (xP_NoClock : PySem.W.excIn K X_NoClock [.type "ValueError", .type "Exception", .type "BaseException", .type "object"] "ValueError.__new__" = true) (kP_NoClock : PySem.W.keepIn K (.ref X_NoClock) = true) (bP_NoClock : PySem.W.subIn K (.ref X_NoClock) (.type "BaseException") = some true) (tP_NoClock : PySem.W.typeIn K (.ref X_NoClock) = some (.type "type")) (iP_NoClock : PySem.W.isClsIn K X_NoClock = true) (sP_NoClock : PySem.W.subIn K (.ref X_NoClock) (.ref X_NoClock) = some true)
    (z_any : PySem.W.nsIn K mainGlobals "any" = some none)
    (z_dict : PySem.W.nsIn K mainGlobals "dict" = some none)
    (z_len : PySem.W.nsIn K mainGlobals "len" = some none)
    (z_list : PySem.W.nsIn K mainGlobals "list" = some none)
    (z_max : PySem.W.nsIn K mainGlobals "max" = some none)
    (z_min : PySem.W.nsIn K mainGlobals "min" = some none)
    (z_range : PySem.W.nsIn K mainGlobals "range" = some none)
    (z_sorted : PySem.W.nsIn K mainGlobals "sorted" = some none)
    (z_sum : PySem.W.nsIn K mainGlobals "sum" = some none)
    (z_tuple : PySem.W.nsIn K mainGlobals "tuple" = some none)
    {t_KEYS : Tok} (q_KEYS : PySem.W.nsIn K mainGlobals "KEYS" = some (some (.int 100 t_KEYS)))
    (hl : ∀ ns : List Int, ns.length ≤ 63 → callN gm 40 112 [.rol (ns.map .int)] (fun _ => none) (fun d _ => d = .bl true) (fun _ _ => False)) :
    ∃ fd : FuncData, (∀ (s : Shared) (v : Value), BindsTo s fd ⟨[v], []⟩ [("_law_script", v)]) ∧ ∀ base : Heap, K.In base → base.Ns mainGlobals mg → FnOk l.prog w K mg base (L2.CX l.prog w) 80 fa fd ["_law_script"] (spLaw K) := by
  have e := hfa.symm.trans (PySem.W.mg_of X G a42)
  cases e
  let L : Lk := ⟨K, fun q => (([(1, C_Source), (2, C_Keeper), (3, C_Summer)] : List (Nat × Addr)).lookup q).getD 0, fun q => (([(1, ["stands", "changed", "many_asks", "many_keys"]), (2, ["source", "room", "cost", "heard", "turn", "stamps", "rows"]), (3, ["source", "heard", "kept", "many"])] : List (Nat × List Str)).lookup q).getD [], fun q => (([(1, .ref X_NoClock)] : List (Nat × Value)).lookup q).getD .none, fun q => (([(45, f0), (46, f1), (47, f2), (48, f3), (49, f4), (50, f5), (51, f6), (53, f7), (4, f8), (5, f9), (8, f10), (10, f11), (11, f12), (14, f13), (17, f14), (33, f15), (34, f16), (35, f17), (36, f18), (37, f19), (38, f20), (39, f21), (41, f22), (42, f23), (43, f24), (21, f25), (22, f26), (23, f27), (24, f28), (25, f29), (26, f30), (27, f31), (28, f32), (29, f33), (30, f34), (102, f35), (103, f36), (115, f37), (108, f38), (117, f39), (187, f40), (188, f41), (112, fa)] : List (Nat × Addr)).lookup q).getD 0, fun q => (([(2, "ask"), (3, "asked"), (4, "changes_since"), (5, "clock"), (6, "drop"), (7, "follows"), (8, "forget"), (9, "hear"), (10, "known"), (11, "look"), (12, "look_at"), (13, "need"), (14, "page"), (16, "plan"), (17, "put"), (19, "shrink"), (20, "sums"), (21, "take"), (22, "told")] : List (Nat × Str)).lookup q).getD ""⟩
  have T : Txt L mg := ⟨True.intro, PySem.W.mg_none_of X G z_any, PySem.W.mg_none_of X G z_dict, PySem.W.mg_none_of X G z_len, PySem.W.mg_none_of X G z_list, PySem.W.mg_none_of X G z_max, PySem.W.mg_none_of X G z_min, PySem.W.mg_none_of X G z_range, PySem.W.mg_none_of X G z_sorted, PySem.W.mg_none_of X G z_sum, PySem.W.mg_none_of X G z_tuple, ⟨_, PySem.W.mg_of X G q_KEYS⟩, PySem.W.mg_of X G a6, PySem.W.mg_of X G a7, PySem.W.mg_of X G a8, PySem.W.mg_of X G a9, PySem.W.mg_of X G a10, PySem.W.mg_of X G a11, PySem.W.mg_of X G a12, PySem.W.mg_of X G a13, PySem.W.mg_of X G a14, PySem.W.mg_of X G a35, PySem.W.mg_of X G a36, PySem.W.mg_of X G a37, PySem.W.mg_of X G a38, PySem.W.mg_of X G a39, PySem.W.mg_of X G a40, PySem.W.mg_of X G a41, PySem.W.mg_of X G aC_Source, rfl, rfl, rfl, rfl, PySem.W.mg_of X G aC_Keeper, rfl, rfl, rfl, rfl, rfl, rfl, rfl, PySem.W.mg_of X G aC_Summer, rfl, rfl, rfl, rfl, rfl, rfl, rfl, rfl, rfl, rfl, rfl, rfl, rfl, rfl, rfl, rfl, rfl, rfl, rfl, rfl, rfl, rfl, rfl, ⟨X_NoClock, rfl, ⟨xP_NoClock, kP_NoClock, bP_NoClock, tP_NoClock⟩, PySem.W.mg_of X G aX_NoClock⟩, ⟨_, PySem.W.mg_of X G aX_NoClock, fun i hi => by (have z : i = 1 := by simpa using hi); subst z; exact exm_own bP_NoClock iP_NoClock tP_NoClock sP_NoClock⟩⟩
  have F0 := fun_mk (st := s_Summer___init__) l0 c0 k0
  have b0 := F0.binds (ps := ["self", "source"]) fun _ _ _ _ _ _ us hl => match us, hl with | [_, _], _ => rfl
  have D0 : Def1 L gm l.prog w mg 45 ⟨2, 2, IR.Summer___init__⟩ _ ["self", "source"] := ⟨_, _, _, n_Summer___init__, F0, sc_Summer___init__, rfl, rfl, b0, fun _ _ _ _ _ _ _ _ => bd_Summer___init__ T⟩
  have F1 := fun_mk (st := s_Summer_sums) l1 c1 k1
  have b1 := F1.binds (ps := ["self"]) fun _ _ _ _ _ _ us hl => match us, hl with | [_], _ => rfl
  have D1 : Def1 L gm l.prog w mg 46 ⟨1, 1, IR.Summer_sums⟩ _ ["self"] := ⟨_, _, _, n_Summer_sums, F1, sc_Summer_sums, rfl, rfl, b1, fun _ _ _ _ _ _ _ _ => bd_Summer_sums T⟩
  have F2 := fun_mk (st := s_Summer_asked) l2 c2 k2
  have b2 := F2.binds (ps := ["self"]) fun _ _ _ _ _ _ us hl => match us, hl with | [_], _ => rfl
  have D2 : Def1 L gm l.prog w mg 47 ⟨1, 1, IR.Summer_asked⟩ _ ["self"] := ⟨_, _, _, n_Summer_asked, F2, sc_Summer_asked, rfl, rfl, b2, fun _ _ _ _ _ _ _ _ => bd_Summer_asked T⟩
  have F3 := fun_mk (st := s_Summer_hear) l3 c3 k3
  have b3 := F3.binds (ps := ["self"]) fun _ _ _ _ _ _ us hl => match us, hl with | [_], _ => rfl
  have D3 : Def1 L gm l.prog w mg 48 ⟨1, 5, IR.Summer_hear⟩ _ ["self"] := ⟨_, _, _, n_Summer_hear, F3, sc_Summer_hear, rfl, rfl, b3, fun _ _ _ _ _ _ _ _ => bd_Summer_hear T⟩
  have F4 := fun_mk (st := s_Summer_follows) l4 c4 k4
  have b4 := F4.binds (ps := ["self", "first", "last"]) fun _ _ _ _ _ _ us hl => match us, hl with | [_, _, _], _ => rfl
  have D4 : Def1 L gm l.prog w mg 49 ⟨3, 9, IR.Summer_follows⟩ _ ["self", "first", "last"] := ⟨_, _, _, n_Summer_follows, F4, sc_Summer_follows, rfl, rfl, b4, fun _ _ _ _ _ _ _ _ => bd_Summer_follows T⟩
  have F5 := fun_mk (st := s_Summer_ask) l5 c5 k5
  have b5 := F5.binds (ps := ["self", "first", "last"]) fun _ _ _ _ _ _ us hl => match us, hl with | [_, _, _], _ => rfl
  have D5 : Def1 L gm l.prog w mg 50 ⟨3, 6, IR.Summer_ask⟩ _ ["self", "first", "last"] := ⟨_, _, _, n_Summer_ask, F5, sc_Summer_ask, rfl, rfl, b5, fun _ _ _ _ _ _ _ _ => bd_Summer_ask T⟩
  have F6 := fun_mk (st := s_touches) l6 c6 k6
  have b6 := F6.binds (ps := ["spread", "first", "last"]) fun _ _ _ _ _ _ us hl => match us, hl with | [_, _, _], _ => rfl
  have D6 : Def1 L gm l.prog w mg 51 ⟨3, 5, IR.touches⟩ _ ["spread", "first", "last"] := ⟨_, _, _, n_touches, F6, sc_touches, rfl, rfl, b6, fun _ _ _ _ _ _ _ _ => bd_touches T⟩
  have F7 := fun_mk (st := s_holds_to) l7 c7 k7
  have b7 := F7.binds (ps := ["source", "clock", "first", "last"]) fun _ _ _ _ _ _ us hl => match us, hl with | [_, _, _, _], _ => rfl
  have D7 : Def1 L gm l.prog w mg 53 ⟨4, 6, IR.holds_to⟩ _ ["source", "clock", "first", "last"] := ⟨_, _, _, n_holds_to, F7, sc_holds_to, rfl, rfl, b7, fun _ _ _ _ _ _ _ _ => bd_holds_to T⟩
  have F8 := fun_mk (st := s_spread_of) l8 c8 k8
  have b8 := F8.binds (ps := ["stretches"]) fun _ _ _ _ _ _ us hl => match us, hl with | [_], _ => rfl
  have D8 : Def1 L gm l.prog w mg 4 ⟨1, 4, IR.spread_of⟩ _ ["stretches"] := ⟨_, _, _, n_spread_of, F8, sc_spread_of, rfl, rfl, b8, fun _ _ _ _ _ _ _ _ => bd_spread_of T⟩
  have F9 := fun_mk (st := s_spread_by) l9 c9 k9
  have b9 := F9.binds (ps := ["keys"]) fun _ _ _ _ _ _ us hl => match us, hl with | [_], _ => rfl
  have D9 : Def1 L gm l.prog w mg 5 ⟨1, 2, IR.spread_by⟩ _ ["keys"] := ⟨_, _, _, n_spread_by, F9, sc_spread_by, rfl, rfl, b9, fun _ _ _ _ _ _ _ _ => bd_spread_by T⟩
  have F10 := fun_mk (st := s_keys_of) l10 c10 k10
  have b10 := F10.binds (ps := ["spread"]) fun _ _ _ _ _ _ us hl => match us, hl with | [_], _ => rfl
  have D10 : Def1 L gm l.prog w mg 8 ⟨1, 4, IR.keys_of⟩ _ ["spread"] := ⟨_, _, _, n_keys_of, F10, sc_keys_of, rfl, rfl, b10, fun _ _ _ _ _ _ _ _ => bd_keys_of T⟩
  have F11 := fun_mk (st := s_met) l11 c11 k11
  have b11 := F11.binds (ps := ["one", "other"]) fun _ _ _ _ _ _ us hl => match us, hl with | [_, _], _ => rfl
  have D11 : Def1 L gm l.prog w mg 10 ⟨2, 7, IR.met⟩ _ ["one", "other"] := ⟨_, _, _, n_met, F11, sc_met, rfl, rfl, b11, fun _ _ _ _ _ _ _ _ => bd_met T⟩
  have F12 := fun_mk (st := s_turned_out) l12 c12 k12
  have b12 := F12.binds (ps := ["spread", "first", "last"]) fun _ _ _ _ _ _ us hl => match us, hl with | [_, _, _], _ => rfl
  have D12 : Def1 L gm l.prog w mg 11 ⟨3, 7, IR.turned_out⟩ _ ["spread", "first", "last"] := ⟨_, _, _, n_turned_out, F12, sc_turned_out, rfl, rfl, b12, fun _ _ _ _ _ _ _ _ => bd_turned_out T⟩
  have F13 := fun_mk (st := s_lacking) l13 c13 k13
  have b13 := F13.binds (ps := ["spread", "first", "last"]) fun _ _ _ _ _ _ us hl => match us, hl with | [_, _, _], _ => rfl
  have D13 : Def1 L gm l.prog w mg 14 ⟨3, 3, IR.lacking⟩ _ ["spread", "first", "last"] := ⟨_, _, _, n_lacking, F13, sc_lacking, rfl, rfl, b13, fun _ _ _ _ _ _ _ _ => bd_lacking T⟩
  have F14 := fun_mk (st := s_asks) l14 c14 k14
  have b14 := F14.binds (ps := ["spread", "cost"]) fun _ _ _ _ _ _ us hl => match us, hl with | [_, _], _ => rfl
  have D14 : Def1 L gm l.prog w mg 17 ⟨2, 5, IR.asks⟩ _ ["spread", "cost"] := ⟨_, _, _, n_asks, F14, sc_asks, rfl, rfl, b14, fun _ _ _ _ _ _ _ _ => bd_asks T⟩
  have F15 := fun_mk (st := s_Keeper___init__) l15 c15 k15
  have b15 := F15.binds (ps := ["self", "source", "room", "cost"]) fun _ _ _ _ _ _ us hl => match us, hl with | [_, _, _, _], _ => rfl
  have D15 : Def1 L gm l.prog w mg 33 ⟨4, 4, IR.Keeper___init__⟩ _ ["self", "source", "room", "cost"] := ⟨_, _, _, n_Keeper___init__, F15, sc_Keeper___init__, rfl, rfl, b15, fun _ _ _ _ _ _ _ _ => bd_Keeper___init__ T⟩
  have F16 := fun_mk (st := s_Keeper_known) l16 c16 k16
  have b16 := F16.binds (ps := ["self"]) fun _ _ _ _ _ _ us hl => match us, hl with | [_], _ => rfl
  have D16 : Def1 L gm l.prog w mg 34 ⟨1, 1, IR.Keeper_known⟩ _ ["self"] := ⟨_, _, _, n_Keeper_known, F16, sc_Keeper_known, rfl, rfl, b16, fun _ _ _ _ _ _ _ _ => bd_Keeper_known T⟩
  have F17 := fun_mk (st := s_Keeper_forget) l17 c17 k17
  have b17 := F17.binds (ps := ["self", "spread"]) fun _ _ _ _ _ _ us hl => match us, hl with | [_, _], _ => rfl
  have D17 : Def1 L gm l.prog w mg 35 ⟨2, 3, IR.Keeper_forget⟩ _ ["self", "spread"] := ⟨_, _, _, n_Keeper_forget, F17, sc_Keeper_forget, rfl, rfl, b17, fun _ _ _ _ _ _ _ _ => bd_Keeper_forget T⟩
  have F18 := fun_mk (st := s_Keeper_hear) l18 c18 k18
  have b18 := F18.binds (ps := ["self"]) fun _ _ _ _ _ _ us hl => match us, hl with | [_], _ => rfl
  have D18 : Def1 L gm l.prog w mg 36 ⟨1, 2, IR.Keeper_hear⟩ _ ["self"] := ⟨_, _, _, n_Keeper_hear, F18, sc_Keeper_hear, rfl, rfl, b18, fun _ _ _ _ _ _ _ _ => bd_Keeper_hear T⟩
  have F19 := fun_mk (st := s_Keeper_take) l19 c19 k19
  have b19 := F19.binds (ps := ["self", "first", "last", "rows"]) fun _ _ _ _ _ _ us hl => match us, hl with | [_, _, _, _], _ => rfl
  have D19 : Def1 L gm l.prog w mg 37 ⟨4, 6, IR.Keeper_take⟩ _ ["self", "first", "last", "rows"] := ⟨_, _, _, n_Keeper_take, F19, sc_Keeper_take, rfl, rfl, b19, fun _ _ _ _ _ _ _ _ => bd_Keeper_take T⟩
  have F20 := fun_mk (st := s_Keeper_shrink) l20 c20 k20
  have b20 := F20.binds (ps := ["self"]) fun _ _ _ _ _ _ us hl => match us, hl with | [_], _ => rfl
  have D20 : Def1 L gm l.prog w mg 38 ⟨1, 4, IR.Keeper_shrink⟩ _ ["self"] := ⟨_, _, _, n_Keeper_shrink, F20, sc_Keeper_shrink, rfl, rfl, b20, fun _ _ _ _ _ _ _ _ => bd_Keeper_shrink T⟩
  have F21 := fun_mk (st := s_Keeper_told) l21 c21 k21
  have b21 := F21.binds (ps := ["self", "first", "last"]) fun _ _ _ _ _ _ us hl => match us, hl with | [_, _, _], _ => rfl
  have D21 : Def1 L gm l.prog w mg 39 ⟨3, 4, IR.Keeper_told⟩ _ ["self", "first", "last"] := ⟨_, _, _, n_Keeper_told, F21, sc_Keeper_told, rfl, rfl, b21, fun _ _ _ _ _ _ _ _ => bd_Keeper_told T⟩
  have F22 := fun_mk (st := s_Keeper_plan) l22 c22 k22
  have b22 := F22.binds (ps := ["self", "first", "last"]) fun _ _ _ _ _ _ us hl => match us, hl with | [_, _, _], _ => rfl
  have D22 : Def1 L gm l.prog w mg 41 ⟨3, 3, IR.Keeper_plan⟩ _ ["self", "first", "last"] := ⟨_, _, _, n_Keeper_plan, F22, sc_Keeper_plan, rfl, rfl, b22, fun _ _ _ _ _ _ _ _ => bd_Keeper_plan T⟩
  have F23 := fun_mk (st := s_Keeper_ask) l23 c23 k23
  have b23 := F23.binds (ps := ["self", "first", "last"]) fun _ _ _ _ _ _ us hl => match us, hl with | [_, _, _], _ => rfl
  have D23 : Def1 L gm l.prog w mg 42 ⟨3, 7, IR.Keeper_ask⟩ _ ["self", "first", "last"] := ⟨_, _, _, n_Keeper_ask, F23, sc_Keeper_ask, rfl, rfl, b23, fun _ _ _ _ _ _ _ _ => bd_Keeper_ask T⟩
  have F24 := fun_mk (st := s_Keeper_page) l24 c24 k24
  have b24 := F24.binds (ps := ["self", "first", "many"]) fun _ _ _ _ _ _ us hl => match us, hl with | [_, _, _], _ => rfl
  have D24 : Def1 L gm l.prog w mg 43 ⟨3, 5, IR.Keeper_page⟩ _ ["self", "first", "many"] := ⟨_, _, _, n_Keeper_page, F24, sc_Keeper_page, rfl, rfl, b24, fun _ _ _ _ _ _ _ _ => bd_Keeper_page T⟩
  have F25 := fun_mk (st := s_Source___init__) l25 c25 k25
  have b25 := F25.binds (ps := ["self", "rows"]) fun _ _ _ _ _ _ us hl => match us, hl with | [_, _], _ => rfl
  have D25 : Def1 L gm l.prog w mg 21 ⟨2, 2, IR.Source___init__⟩ _ ["self", "rows"] := ⟨_, _, _, n_Source___init__, F25, sc_Source___init__, rfl, rfl, b25, fun _ _ _ _ _ _ _ _ => bd_Source___init__ T⟩
  have F26 := fun_mk (st := s_Source_clock) l26 c26 k26
  have b26 := F26.binds (ps := ["self"]) fun _ _ _ _ _ _ us hl => match us, hl with | [_], _ => rfl
  have D26 : Def1 L gm l.prog w mg 22 ⟨1, 1, IR.Source_clock⟩ _ ["self"] := ⟨_, _, _, n_Source_clock, F26, sc_Source_clock, rfl, rfl, b26, fun _ _ _ _ _ _ _ _ => bd_Source_clock T⟩
  have F27 := fun_mk (st := s_Source_need) l27 c27 k27
  have b27 := F27.binds (ps := ["self", "clock"]) fun _ _ _ _ _ _ us hl => match us, hl with | [_, _], _ => rfl
  have D27 : Def1 L gm l.prog w mg 23 ⟨2, 2, IR.Source_need⟩ _ ["self", "clock"] := ⟨_, _, _, n_Source_need, F27, sc_Source_need, rfl, rfl, b27, fun _ _ _ _ _ _ _ _ => bd_Source_need T⟩
  have F28 := fun_mk (st := s_Source_look) l28 c28 k28
  have b28 := F28.binds (ps := ["self", "first", "last"]) fun _ _ _ _ _ _ us hl => match us, hl with | [_, _, _], _ => rfl
  have D28 : Def1 L gm l.prog w mg 24 ⟨3, 3, IR.Source_look⟩ _ ["self", "first", "last"] := ⟨_, _, _, n_Source_look, F28, sc_Source_look, rfl, rfl, b28, fun _ _ _ _ _ _ _ _ => bd_Source_look T⟩
  have F29 := fun_mk (st := s_Source_look_at) l29 c29 k29
  have b29 := F29.binds (ps := ["self", "clock", "first", "last"]) fun _ _ _ _ _ _ us hl => match us, hl with | [_, _, _, _], _ => rfl
  have D29 : Def1 L gm l.prog w mg 25 ⟨4, 6, IR.Source_look_at⟩ _ ["self", "clock", "first", "last"] := ⟨_, _, _, n_Source_look_at, F29, sc_Source_look_at, rfl, rfl, b29, fun _ _ _ _ _ _ _ _ => bd_Source_look_at T⟩
  have F30 := fun_mk (st := s_Source_ask) l30 c30 k30
  have b30 := F30.binds (ps := ["self", "first", "last"]) fun _ _ _ _ _ _ us hl => match us, hl with | [_, _, _], _ => rfl
  have D30 : Def1 L gm l.prog w mg 26 ⟨3, 3, IR.Source_ask⟩ _ ["self", "first", "last"] := ⟨_, _, _, n_Source_ask, F30, sc_Source_ask, rfl, rfl, b30, fun _ _ _ _ _ _ _ _ => bd_Source_ask T⟩
  have F31 := fun_mk (st := s_Source_told) l31 c31 k31
  have b31 := F31.binds (ps := ["self"]) fun _ _ _ _ _ _ us hl => match us, hl with | [_], _ => rfl
  have D31 : Def1 L gm l.prog w mg 27 ⟨1, 1, IR.Source_told⟩ _ ["self"] := ⟨_, _, _, n_Source_told, F31, sc_Source_told, rfl, rfl, b31, fun _ _ _ _ _ _ _ _ => bd_Source_told T⟩
  have F32 := fun_mk (st := s_Source_put) l32 c32 k32
  have b32 := F32.binds (ps := ["self", "key", "worth"]) fun _ _ _ _ _ _ us hl => match us, hl with | [_, _, _], _ => rfl
  have D32 : Def1 L gm l.prog w mg 28 ⟨3, 4, IR.Source_put⟩ _ ["self", "key", "worth"] := ⟨_, _, _, n_Source_put, F32, sc_Source_put, rfl, rfl, b32, fun _ _ _ _ _ _ _ _ => bd_Source_put T⟩
  have F33 := fun_mk (st := s_Source_drop) l33 c33 k33
  have b33 := F33.binds (ps := ["self", "key"]) fun _ _ _ _ _ _ us hl => match us, hl with | [_, _], _ => rfl
  have D33 : Def1 L gm l.prog w mg 29 ⟨2, 3, IR.Source_drop⟩ _ ["self", "key"] := ⟨_, _, _, n_Source_drop, F33, sc_Source_drop, rfl, rfl, b33, fun _ _ _ _ _ _ _ _ => bd_Source_drop T⟩
  have F34 := fun_mk (st := s_Source_changes_since) l34 c34 k34
  have b34 := F34.binds (ps := ["self", "clock"]) fun _ _ _ _ _ _ us hl => match us, hl with | [_, _], _ => rfl
  have D34 : Def1 L gm l.prog w mg 30 ⟨2, 2, IR.Source_changes_since⟩ _ ["self", "clock"] := ⟨_, _, _, n_Source_changes_since, F34, sc_Source_changes_since, rfl, rfl, b34, fun _ _ _ _ _ _ _ _ => bd_Source_changes_since T⟩
  have F35 := fun_mk (st := s_law_draw) l35 c35 k35
  have b35 := F35.binds (ps := ["_law_script", "_law_town", "_law_many"]) fun _ _ _ _ _ _ us hl => match us, hl with | [_, _, _], _ => rfl
  have D35 : Def1 L gm l.prog w mg 102 ⟨3, 7, IR.law_draw_k18⟩ _ ["_law_script", "_law_town", "_law_many"] := ⟨_, _, _, n_law_draw, F35, sc_law_draw, rfl, rfl, b35, fun _ _ _ _ _ _ _ _ => bd_law_draw T⟩
  have F36 := fun_mk (st := s_law_pick) l36 c36 k36
  have b36 := F36.binds (ps := ["_law_script", "_law_town", "_law_some"]) fun _ _ _ _ _ _ us hl => match us, hl with | [_, _, _], _ => rfl
  have D36 : Def1 L gm l.prog w mg 103 ⟨3, 3, IR.law_pick⟩ _ ["_law_script", "_law_town", "_law_some"] := ⟨_, _, _, n_law_pick, F36, sc_law_pick, rfl, rfl, b36, fun _ _ _ _ _ _ _ _ => bd_law_pick T⟩
  have F37 := fun_mk (st := s_law_rows) l37 c37 k37
  have b37 := F37.binds (ps := ["_law_script", "_law_town"]) fun _ _ _ _ _ _ us hl => match us, hl with | [_, _], _ => rfl
  have D37 : Def1 L gm l.prog w mg 115 ⟨2, 4, IR.law_rows_k22⟩ _ ["_law_script", "_law_town"] := ⟨_, _, _, n_law_rows, F37, sc_law_rows, rfl, rfl, b37, fun _ _ _ _ _ _ _ _ => bd_law_rows T⟩
  have F38 := fun_mk (st := s_law_window) l38 c38 k38
  have b38 := F38.binds (ps := ["_law_script", "_law_town"]) fun _ _ _ _ _ _ us hl => match us, hl with | [_, _], _ => rfl
  have D38 : Def1 L gm l.prog w mg 108 ⟨2, 3, IR.law_window_k22⟩ _ ["_law_script", "_law_town"] := ⟨_, _, _, n_law_window, F38, sc_law_window, rfl, rfl, b38, fun _ _ _ _ _ _ _ _ => bd_law_window T⟩
  have F39 := fun_mk (st := s_law_change) l39 c39 k39
  have b39 := F39.binds (ps := ["_law_script", "_law_town", "_law_source", "_law_rows_here"]) fun _ _ _ _ _ _ us hl => match us, hl with | [_, _, _, _], _ => rfl
  have D39 : Def1 L gm l.prog w mg 117 ⟨4, 5, IR.law_change_k22⟩ _ ["_law_script", "_law_town", "_law_source", "_law_rows_here"] := ⟨_, _, _, n_law_change, F39, sc_law_change, rfl, rfl, b39, fun _ _ _ _ _ _ _ _ => bd_law_change T⟩
  have F40 := fun_mk (st := s_law_paged) l40 c40 k40
  have b40 := F40.binds (ps := ["_law_keeper", "_law_first", "_law_last"]) fun _ _ _ _ _ _ us hl => match us, hl with | [_, _, _], _ => rfl
  have D40 : Def1 L gm l.prog w mg 187 ⟨3, 8, ir_law_paged⟩ _ ["_law_keeper", "_law_first", "_law_last"] := ⟨_, _, _, n_law_paged, F40, sc_law_paged, rfl, rfl, b40, fun _ _ _ _ _ _ _ _ => bd_law_paged T⟩
  have F41 := fun_mk (st := s_law_kept_stands) l41 c41 k41
  have b41 := F41.binds (ps := ["_law_source", "_law_since", "_law_sums"]) fun _ _ _ _ _ _ us hl => match us, hl with | [_, _, _], _ => rfl
  have D41 : Def1 L gm l.prog w mg 188 ⟨3, 9, ir_law_kept_stands⟩ _ ["_law_source", "_law_since", "_law_sums"] := ⟨_, _, _, n_law_kept_stands, F41, sc_law_kept_stands, rfl, rfl, b41, fun _ _ _ _ _ _ _ _ => bd_law_kept_stands T⟩
  have F42 := fun_mk (st := s_law) l42 c42 k42
  have b42 := F42.binds (ps := ["_law_script"]) fun _ _ _ _ _ _ us hl => match us, hl with | [_], _ => rfl
  have D42 : Def1 L gm l.prog w mg 112 ⟨1, 19, ir_law⟩ _ ["_law_script"] := ⟨_, _, _, n_law, F42, sc_law, rfl, rfl, b42, fun _ _ _ _ _ _ _ _ => bd_law T⟩
  have all : ∀ f fd, gm.fn f = some fd → ∃ fdt ps, Def1 L gm l.prog w mg f fd fdt ps := allD_get (R := fun f fd => ∃ fdt ps, Def1 L gm l.prog w mg f fd fdt ps) (t := tbl) ⟨⟨_, _, D0⟩, ⟨_, _, D1⟩, ⟨_, _, D2⟩, ⟨_, _, D3⟩, ⟨_, _, D4⟩, ⟨_, _, D5⟩, ⟨_, _, D6⟩, ⟨_, _, D7⟩, ⟨_, _, D8⟩, ⟨_, _, D9⟩, ⟨_, _, D10⟩, ⟨_, _, D11⟩, ⟨_, _, D12⟩, ⟨_, _, D13⟩, ⟨_, _, D14⟩, ⟨_, _, D15⟩, ⟨_, _, D16⟩, ⟨_, _, D17⟩, ⟨_, _, D18⟩, ⟨_, _, D19⟩, ⟨_, _, D20⟩, ⟨_, _, D21⟩, ⟨_, _, D22⟩, ⟨_, _, D23⟩, ⟨_, _, D24⟩, ⟨_, _, D25⟩, ⟨_, _, D26⟩, ⟨_, _, D27⟩, ⟨_, _, D28⟩, ⟨_, _, D29⟩, ⟨_, _, D30⟩, ⟨_, _, D31⟩, ⟨_, _, D32⟩, ⟨_, _, D33⟩, ⟨_, _, D34⟩, ⟨_, _, D35⟩, ⟨_, _, D36⟩, ⟨_, _, D37⟩, ⟨_, _, D38⟩, ⟨_, _, D39⟩, ⟨_, _, D40⟩, ⟨_, _, D41⟩, ⟨_, _, D42⟩, True.intro⟩
  have K_Source : ClOk L gm 1 ⟨4, 21, [(5, 22), (13, 23), (11, 24), (12, 25), (2, 26), (22, 27), (17, 28), (6, 29), (4, 30)]⟩ := ⟨⟨pg_Source, hd_Source, po_Source, sa_Source⟩, fun f hf => by rcases (show f = "stands" ∨ f = "changed" ∨ f = "many_asks" ∨ f = "many_keys" from by simpa using (show f ∈ (["stands", "changed", "many_asks", "many_keys"] : List Str) from hf)) with rfl | rfl | rfl | rfl <;> first | exact no_Source_stands | exact no_Source_changed | exact no_Source_many_asks | exact no_Source_many_keys, (by show (["stands", "changed", "many_asks", "many_keys"] : List Str).Nodup; decide), fun mm f hf => clMs_get (R := fun mm f => Meth K C_Source (L.MN mm) (L.FA f) ∧ L.MN mm ∉ L.FN 1 ∧ ∃ fd, gm.fn f = some fd) (t := [(5, 22), (13, 23), (11, 24), (12, 25), (2, 26), (22, 27), (17, 28), (6, 29), (4, 30)]) ⟨⟨⟨a26, i26, k26⟩, by show ("clock" : Str) ∉ (["stands", "changed", "many_asks", "many_keys"] : List Str); decide, _, rfl⟩, ⟨⟨a27, i27, k27⟩, by show ("need" : Str) ∉ (["stands", "changed", "many_asks", "many_keys"] : List Str); decide, _, rfl⟩, ⟨⟨a28, i28, k28⟩, by show ("look" : Str) ∉ (["stands", "changed", "many_asks", "many_keys"] : List Str); decide, _, rfl⟩, ⟨⟨a29, i29, k29⟩, by show ("look_at" : Str) ∉ (["stands", "changed", "many_asks", "many_keys"] : List Str); decide, _, rfl⟩, ⟨⟨a30, i30, k30⟩, by show ("ask" : Str) ∉ (["stands", "changed", "many_asks", "many_keys"] : List Str); decide, _, rfl⟩, ⟨⟨a31, i31, k31⟩, by show ("told" : Str) ∉ (["stands", "changed", "many_asks", "many_keys"] : List Str); decide, _, rfl⟩, ⟨⟨a32, i32, k32⟩, by show ("put" : Str) ∉ (["stands", "changed", "many_asks", "many_keys"] : List Str); decide, _, rfl⟩, ⟨⟨a33, i33, k33⟩, by show ("drop" : Str) ∉ (["stands", "changed", "many_asks", "many_keys"] : List Str); decide, _, rfl⟩, ⟨⟨a34, i34, k34⟩, by show ("changes_since" : Str) ∉ (["stands", "changed", "many_asks", "many_keys"] : List Str); decide, _, rfl⟩, True.intro⟩ mm f hf, ⟨⟨mk_Source, a25, i25, kc_Source⟩, _, rfl⟩, (by show (["stands", "changed", "many_asks", "many_keys"] : List Str).length < 1000; decide)⟩
  have K_Keeper : ClOk L gm 2 ⟨7, 33, [(10, 34), (8, 35), (9, 36), (21, 37), (19, 38), (22, 39), (16, 41), (2, 42), (14, 43)]⟩ := ⟨⟨pg_Keeper, hd_Keeper, po_Keeper, sa_Keeper⟩, fun f hf => by rcases (show f = "source" ∨ f = "room" ∨ f = "cost" ∨ f = "heard" ∨ f = "turn" ∨ f = "stamps" ∨ f = "rows" from by simpa using (show f ∈ (["source", "room", "cost", "heard", "turn", "stamps", "rows"] : List Str) from hf)) with rfl | rfl | rfl | rfl | rfl | rfl | rfl <;> first | exact no_Keeper_source | exact no_Keeper_room | exact no_Keeper_cost | exact no_Keeper_heard | exact no_Keeper_turn | exact no_Keeper_stamps | exact no_Keeper_rows, (by show (["source", "room", "cost", "heard", "turn", "stamps", "rows"] : List Str).Nodup; decide), fun mm f hf => clMs_get (R := fun mm f => Meth K C_Keeper (L.MN mm) (L.FA f) ∧ L.MN mm ∉ L.FN 2 ∧ ∃ fd, gm.fn f = some fd) (t := [(10, 34), (8, 35), (9, 36), (21, 37), (19, 38), (22, 39), (16, 41), (2, 42), (14, 43)]) ⟨⟨⟨a16, i16, k16⟩, by show ("known" : Str) ∉ (["source", "room", "cost", "heard", "turn", "stamps", "rows"] : List Str); decide, _, rfl⟩, ⟨⟨a17, i17, k17⟩, by show ("forget" : Str) ∉ (["source", "room", "cost", "heard", "turn", "stamps", "rows"] : List Str); decide, _, rfl⟩, ⟨⟨a18, i18, k18⟩, by show ("hear" : Str) ∉ (["source", "room", "cost", "heard", "turn", "stamps", "rows"] : List Str); decide, _, rfl⟩, ⟨⟨a19, i19, k19⟩, by show ("take" : Str) ∉ (["source", "room", "cost", "heard", "turn", "stamps", "rows"] : List Str); decide, _, rfl⟩, ⟨⟨a20, i20, k20⟩, by show ("shrink" : Str) ∉ (["source", "room", "cost", "heard", "turn", "stamps", "rows"] : List Str); decide, _, rfl⟩, ⟨⟨a21, i21, k21⟩, by show ("told" : Str) ∉ (["source", "room", "cost", "heard", "turn", "stamps", "rows"] : List Str); decide, _, rfl⟩, ⟨⟨a22, i22, k22⟩, by show ("plan" : Str) ∉ (["source", "room", "cost", "heard", "turn", "stamps", "rows"] : List Str); decide, _, rfl⟩, ⟨⟨a23, i23, k23⟩, by show ("ask" : Str) ∉ (["source", "room", "cost", "heard", "turn", "stamps", "rows"] : List Str); decide, _, rfl⟩, ⟨⟨a24, i24, k24⟩, by show ("page" : Str) ∉ (["source", "room", "cost", "heard", "turn", "stamps", "rows"] : List Str); decide, _, rfl⟩, True.intro⟩ mm f hf, ⟨⟨mk_Keeper, a15, i15, kc_Keeper⟩, _, rfl⟩, (by show (["source", "room", "cost", "heard", "turn", "stamps", "rows"] : List Str).length < 1000; decide)⟩
  have K_Summer : ClOk L gm 3 ⟨4, 45, [(20, 46), (3, 47), (9, 48), (7, 49), (2, 50)]⟩ := ⟨⟨pg_Summer, hd_Summer, po_Summer, sa_Summer⟩, fun f hf => by rcases (show f = "source" ∨ f = "heard" ∨ f = "kept" ∨ f = "many" from by simpa using (show f ∈ (["source", "heard", "kept", "many"] : List Str) from hf)) with rfl | rfl | rfl | rfl <;> first | exact no_Summer_source | exact no_Summer_heard | exact no_Summer_kept | exact no_Summer_many, (by show (["source", "heard", "kept", "many"] : List Str).Nodup; decide), fun mm f hf => clMs_get (R := fun mm f => Meth K C_Summer (L.MN mm) (L.FA f) ∧ L.MN mm ∉ L.FN 3 ∧ ∃ fd, gm.fn f = some fd) (t := [(20, 46), (3, 47), (9, 48), (7, 49), (2, 50)]) ⟨⟨⟨a1, i1, k1⟩, by show ("sums" : Str) ∉ (["source", "heard", "kept", "many"] : List Str); decide, _, rfl⟩, ⟨⟨a2, i2, k2⟩, by show ("asked" : Str) ∉ (["source", "heard", "kept", "many"] : List Str); decide, _, rfl⟩, ⟨⟨a3, i3, k3⟩, by show ("hear" : Str) ∉ (["source", "heard", "kept", "many"] : List Str); decide, _, rfl⟩, ⟨⟨a4, i4, k4⟩, by show ("follows" : Str) ∉ (["source", "heard", "kept", "many"] : List Str); decide, _, rfl⟩, ⟨⟨a5, i5, k5⟩, by show ("ask" : Str) ∉ (["source", "heard", "kept", "many"] : List Str); decide, _, rfl⟩, True.intro⟩ mm f hf, ⟨⟨mk_Summer, a0, i0, kc_Summer⟩, _, rfl⟩, (by show (["source", "heard", "kept", "many"] : List Str).length < 1000; decide)⟩
  have cl : ∀ C cd, gm.cl C = some cd → ClOk L gm C cd := clsD_get (R := fun C cd => ClOk L gm C cd) (t := clt) ⟨K_Source, K_Keeper, K_Summer, True.intro⟩
  exact ⟨_, fun s v => .of_eq rfl, fun base _ _ => law_ok all cl D42 rfl hl⟩
end Lk40

set_option Elab.async false
set_option linter.all false
set_option maxRecDepth 100000
set_option maxHeartbeats 1000000
namespace Lk40
open DL PySem DP
open L2 hiding prD
theorem draws : Draws gm := fun n ns _ _ _ _ _ _ ht hk hm h => draw2 rfl n ns ht hk hm h
theorem lkg : LkG gm := ⟨rfl, rfl, rfl, ⟨_, rfl, rfl⟩, ⟨_, rfl, rfl⟩, ⟨_, rfl, rfl⟩⟩
theorem chg : ChG gm := ⟨rfl, rfl, rfl, rfl, rfl, ⟨_, rfl, rfl⟩, ⟨_, rfl, rfl⟩⟩
theorem kpg : KpG gm := { g4 := rfl, g5 := rfl, g8 := rfl, g10 := rfl, g11 := rfl, g14 := rfl, g17 := rfl, c := chg, l := lkg, g24 := rfl, m11 := ⟨_, rfl, rfl⟩, g26 := rfl, m2s := ⟨_, rfl, rfl⟩, m4 := ⟨_, rfl, rfl⟩, g34 := rfl, g35 := rfl, g36 := rfl, g37 := rfl, g38 := rfl, g39 := rfl, g41 := rfl, g42 := rfl, m10 := ⟨_, rfl, rfl⟩, m8 := ⟨_, rfl, rfl⟩, m9 := ⟨_, rfl, rfl⟩, m21 := ⟨_, rfl, rfl⟩, m19 := ⟨_, rfl, rfl⟩, m22 := ⟨_, rfl, rfl⟩, m16 := ⟨_, rfl, rfl⟩ }
theorem smg : SmG gm := { c := chg, l := lkg, g24 := rfl, m11 := ⟨_, rfl, rfl⟩, g26 := rfl, m2s := ⟨_, rfl, rfl⟩, m4 := ⟨_, rfl, rfl⟩, g22 := rfl, m5 := ⟨_, rfl, rfl⟩, g48 := rfl, g49 := rfl, g50 := rfl, g51 := rfl, m9 := ⟨_, rfl, rfl⟩, m7 := ⟨_, rfl, rfl⟩ }
/-! ### keys of two -/
abbrev TK := List (List Key × D)
def dIxt (x y : D) (A : AH) (Q : QE) : Prop := match x, keyT y with
  | .ref p, some k => match A p with
    | some (.dt kvs) => match valT kvs k with | some v => Q v A | none => False
    | _ => False
  | _, _ => False
def dCutk (m : Nat) (x : D) (A : AH) (Q : QE) : Prop := match x with | .tup xs => m < xs.length ∧ Q (.tup (xs.take m)) A | _ => False
def dTnin (x y : D) (A : AH) (Q : QE) : Prop := match x, keyT y with
  | .ref p, some k => match A p with
    | some (.dt kvs) => Q (.bl (!(valT kvs k).isSome)) A
    | _ => False
  | _, _ => False
def dSubt (x y v : D) (A : AH) (K : AH → Prop) : Prop := match x, keyT y with
  | .ref p, some k => match A p with
    | some (.dt kvs) => kvs.length < sizeLine ∧ K (up A p (.dt (putT kvs k v)))
    | _ => False
  | _, _ => False
section
variable {c : CallT} {G : Gm} {δ : DSt} {A : AH} {Q : QE} {E : XQ} {P : Pst} {a k o e : IE} {p : Addr} {S : TK} {i j : Int} {d : D}
theorem wq_ixt : wpE c G (.ixt a k) δ A Q E = wpE c G a δ A (fun x A1 => wpE c G k δ A1 (fun y A2 => dIxt x y A2 Q) E) E := (rfl)
theorem wq_tnin : wpE c G (.tnin k a) δ A Q E = wpE c G k δ A (fun y A1 => wpE c G a δ A1 (fun x A2 => dTnin x y A2 Q) E) E := (rfl)
theorem wq_cutk {m : Nat} : wpE c G (.cutk a m) δ A Q E = wpE c G a δ A (fun x A1 => dCutk m x A1 Q) E := (rfl)
theorem x_cutk {d1 d2 d3 : D} (q : Q (.tup [d1, d2]) A) : dCutk 2 (.tup [d1, d2, d3]) A Q := ⟨(by show 2 < 3; decide), q⟩
theorem wq_subt : wpS c G (.subt o k e) P δ A = wpE c G e δ A (fun v A1 => wpE c G o δ A1 (fun x A2 => wpE c G k δ A2 (fun y A3 => dSubt x y v A3 fun A4 => P.nx δ A4) (fun x A' => P.ex x δ A')) (fun x A' => P.ex x δ A')) (fun x A' => P.ex x δ A') := (rfl)
theorem x_ixt (h : A p = some (.dt S)) (hv : valT S [.inl i, .inl j] = some d) (q : Q d A) : dIxt (.ref p) (.tup [.int i, .int j]) A Q := by
  show (match A p with | some (.dt kvs) => (match valT kvs [.inl i, .inl j] with | some v => Q v A | none => False) | _ => False)
  rw [h]
  show (match valT S [.inl i, .inl j] with | some v => Q v A | none => False)
  rw [hv]
  exact q
theorem x_tnin (h : A p = some (.dt S)) (hv : valT S [.inl i, .inl j] = some d) (q : Q (.bl false) A) : dTnin (.ref p) (.tup [.int i, .int j]) A Q := by
  show (match A p with | some (.dt kvs) => Q (.bl (!(valT kvs [.inl i, .inl j]).isSome)) A | _ => False)
  rw [h]
  show Q (.bl (!(valT S [.inl i, .inl j]).isSome)) A
  rw [hv]
  exact q
theorem x_subt {K : AH → Prop} (h : A p = some (.dt S)) (hz : S.length < 100000) (q : K (up A p (.dt (putT S [.inl i, .inl j] d)))) : dSubt (.ref p) (.tup [.int i, .int j]) d A K := by
  show (match A p with | some (.dt kvs) => kvs.length < sizeLine ∧ K (up A p (.dt (putT kvs [.inl i, .inl j] d))) | _ => False)
  rw [h]
  exact ⟨DL.size_lt hz, q⟩
end
theorem valT_put {S : TK} {k k2 : List Key} {d : D} : valT (putT S k d) k2 = if k2 = k then some d else valT S k2 := by
  unfold putT
  by_cases ha : (S.any fun kv => decide (kv.1 = k)) = true
  · rw [if_pos ha]
    unfold valT
    induction S with
    | nil => simp at ha
    | cons p r ih =>
      rw [List.map_cons]
      by_cases c : p.1 = k
      · rw [if_pos c]
        by_cases c2 : k2 = k
        · rw [if_pos c2, c2, List.find?_cons, show decide ((p.1, d).1 = k) = true from decide_eq_true c]; rfl
        · rw [if_neg c2, List.find?_cons, List.find?_cons, show decide (p.1 = k2) = false from decide_eq_false (by rw [c]; exact fun h => c2 h.symm)]
          dsimp only
          by_cases ha2 : (r.any fun kv => decide (kv.1 = k)) = true
          · rw [ih ha2, if_neg c2]
          · have : (r.map fun kv => if kv.1 = k then (kv.1, d) else kv) = r := by
              conv => rhs; rw [← List.map_id r]
              refine List.map_congr_left fun z hz => ?_
              rw [if_neg]; · rfl
              intro hk
              exact ha2 (List.any_eq_true.mpr ⟨z, hz, decide_eq_true hk⟩)
            rw [this]
      · rw [if_neg c]
        have ha2 : (r.any fun kv => decide (kv.1 = k)) = true := by
          rw [List.any_cons, Bool.or_eq_true] at ha
          exact ha.resolve_left (by simp [c])
        by_cases c3 : p.1 = k2
        · have c2 : ¬ k2 = k := fun h => c (c3.trans h)
          rw [if_neg c2, List.find?_cons, List.find?_cons, decide_eq_true c3]
        · rw [List.find?_cons, List.find?_cons, decide_eq_false c3]
          exact ih ha2
  · rw [if_neg ha]
    unfold valT
    rw [List.find?_append, List.find?_singleton]
    by_cases c2 : k2 = k
    · rw [if_pos c2, c2]
      have : S.find? (fun kv => decide (kv.1 = k)) = none := List.find?_eq_none.mpr fun z hz h => ha (List.any_eq_true.mpr ⟨z, hz, h⟩)
      rw [this]
      simp
    · rw [if_neg c2, show decide ((k, d).1 = k2) = false from decide_eq_false fun h => c2 h.symm]
      cases S.find? (fun kv => decide (kv.1 = k2)) <;> rfl
theorem putT_len {S : TK} {k : List Key} {d : D} : (putT S k d).length ≤ S.length + 1 := by
  unfold putT
  split
  · rw [List.length_map]; omega
  · rw [List.length_append]; exact Nat.le_refl _
/-! ### since when a sum is kept -/
/-- the stretch has stood as it is from the clock told on -/
def StE (S : TK) (v : SV) (h : Int) (e : I3) : Prop := ∃ c : Nat, valT S [.inl e.1, .inl e.2.1] = some (.int c) ∧ (c : Int) ≤ h ∧ ∀ j : Nat, c ≤ j → (j : Int) ≤ h → rowsF (v.at j) e.1 e.2.1 = rowsF (v.at c) e.1 e.2.1
theorem StE.put {S : TK} {v : SV} {h : Int} {e : I3} (s : StE S v h e) (hh : Hist v) (h1 : h ≤ v.cs.length) (key : Int) (o : Option Int) : StE S (v.put key o) h e := by
  obtain ⟨c, e1, e2, e3⟩ := s
  refine ⟨c, e1, e2, fun j h2 h3 => ?_⟩
  rw [at_put hh.len key o (by omega) (by omega), at_put hh.len key o (by omega) (by omega)]
  exact e3 j h2 h3
theorem StE.of {S : TK} {v v' : SV} {h : Int} {e : I3} (s : StE S v h e) (h1 : v'.Rs = v.Rs) : StE S v' h e := by
  obtain ⟨c, e1, e2, e3⟩ := s
  have : ∀ j, v'.at j = v.at j := fun j => by unfold SV.at; rw [h1]
  exact ⟨c, e1, e2, fun j h2 h3 => by rw [this, this]; exact e3 j h2 h3⟩
theorem StE.hear {S : TK} {v : SV} {m : SmV} (ok : SOK m v) (hh : Hist v) (s : ∀ e ∈ m.kept, StE S v m.heard e) : ∀ e ∈ m.stay v, StE S v v.cs.length e := by
  intro e he
  obtain ⟨h1, h2⟩ := List.mem_filter.mp he
  obtain ⟨c, e1, e2, e3⟩ := s e h1
  have g0 := ok.h0
  have g1 := ok.h1
  have hst := ok.st e h1
  have s1 : e.1 < e.2.1 := hst.2.1
  have s0 : 0 ≤ e.1 := hst.1
  have s2 : e.2.1 ≤ 100 := hst.2.2
  have at_ : ∀ j : Nat, m.heard ≤ j → (j : Int) ≤ v.cs.length → rowsF (v.at j) e.1 e.2.1 = rowsF v.now e.1 e.2.1 := fun j h3 h4 => by
    refine rowsF_inj.mpr fun k _ _ k1 k2 => ?_
    have hn : k ∉ v.cs.drop j := fun hm => by
      have hd : k ∈ v.cs.drop m.heard.toNat := by
        obtain ⟨i, hi⟩ := List.mem_iff_getElem?.mp hm
        rw [List.getElem?_drop] at hi
        refine List.mem_iff_getElem?.mpr ⟨j - m.heard.toNat + i, ?_⟩
        rw [List.getElem?_drop, ← hi]
        congr 1
        omega
      have : tch (spB (v.cs.drop m.heard.toNat)) e.1 e.2.1 = true := (tch_iff (spB_ok _) s1).mpr ⟨k, by rw [spB_has fun z hz => hh.rg z (List.mem_of_mem_drop hz)]; exact decide_eq_true hd, k1, k2⟩
      rw [this] at h2; cases h2
    exact (hh.since (k := k) (v.cs.length - j) j (by omega) hn).symm
  refine ⟨c, e1, by omega, fun j h3 h4 => ?_⟩
  by_cases c1 : (j : Int) ≤ m.heard
  · exact e3 j h3 c1
  · rw [at_ j (by omega) h4]
    have := at_ m.heard.toNat (by omega) (by omega)
    rw [← this]
    exact e3 m.heard.toNat (by omega) (by omega)
theorem StE.mark {S : TK} {v : SV} {e f : I3} (hh : Hist v) (s : StE S v v.cs.length e ∨ (e.1 = f.1 ∧ e.2.1 = f.2.1)) : StE (putT S [.inl f.1, .inl f.2.1] (.int v.cs.length)) v v.cs.length e := by
  by_cases c : e.1 = f.1 ∧ e.2.1 = f.2.1
  · refine ⟨v.cs.length, by rw [valT_put, if_pos (by rw [c.1, c.2])], Int.le_refl _, fun j h1 h2 => ?_⟩
    have : j = v.cs.length := by omega
    rw [this]
  · obtain ⟨c0, e1, e2, e3⟩ := s.resolve_right c
    refine ⟨c0, ?_, e2, e3⟩
    rw [valT_put, if_neg]
    · exact e1
    · intro h
      injection h with h1 h2
      injection h1 with h1
      injection h2 with h2
      injection h2 with h2
      exact c ⟨h1, h2⟩
/-! ### the world -/
def cel (a : SA) (q : KA) (u : Addr) : List Addr := [a.s, a.st, a.ch, u] ++ q.L
structure W4 (A : AH) (t : Addr) (k : Nat) (d : Addr) (a : SA) (v : SV) (kv : PL) (q : KA) (w : DP.KV) (u : Addr) (m : SmV) (p : Addr) (S : TK) : Prop where
  T : WT A t k a v [(q, w)] u m
  hd : A d = some (.dk (dkI kv))
  r : Rep kv v.now
  hp : A p = some (.dt S)
  od : d ≠ t ∧ d ∉ cel a q u
  op : p ≠ t ∧ p ∉ cel a q u
  dp : d ≠ p
section
variable {n : Nat} {A B : AH} {Q : QE} {E : XQ} {P : Pst} {t d u p : Addr} {k k' : Nat} {a : SA} {v v' : SV} {kv kv' : PL} {q : KA} {w w' : DP.KV} {m m' : SmV} {S : TK} {x y : Int}
theorem mem_cel {z : Addr} : z ∈ cel a q u ↔ (z = a.s ∨ z = a.st ∨ z = a.ch ∨ z = u) ∨ z ∈ q.L := by
  unfold cel
  simp only [List.mem_append, List.mem_cons, List.not_mem_nil, or_false]
theorem W4.draw (W : W4 A t k d a v kv q w u m p S) : W4 (up A t (tw k')) t k' d a v kv q w u m p S :=
  ⟨W.T.draw, by rw [up_ne W.od.1]; exact W.hd, W.r, by rw [up_ne W.op.1]; exact W.hp, W.od, W.op, W.dp⟩
theorem W4.step (W : W4 A t k d a v kv q w u m p S) (T : WT B t k a v' [(q, w')] u m') (f : Fr (cel a q u) A B) (hn : v'.now = v.now) : W4 B t k d a v' kv q w' u m' p S :=
  ⟨T, f.at W.od.2 W.hd, by rw [hn]; exact W.r, f.at W.op.2 W.hp, W.od, W.op, W.dp⟩
theorem W4.change (ns : List Int) (W : W4 A t k d a v kv q w u m p S) (hk : k < 90000) (hz : v.cs.length < 9999) (c : ∀ key o B k' kv', k ≤ k' → k' ≤ k + 4 → W4 B t k' d a (v.put key o) kv' q w u m p S → Q .non B) : callN gm (n + 3) 117 [.rol (ns.map .int), .ref t, .ref a.s, .ref d] A Q E := by
  have na := W.T.W.na
  have od := W.od
  have ou := W.T.ou
  rw [mem_cel] at od
  simp only [not_or] at od
  simp only [List.nodup_cons, List.mem_cons, List.not_mem_nil, or_false, not_or, not_false_eq_true, List.nodup_nil, and_true] at na ou
  have w2 : DP.W2 A t k d a v kv := ⟨W.T.W.ht, W.T.W.src, W.hd, W.r, by
    simp only [List.nodup_cons, List.mem_cons, List.not_mem_nil, or_false, not_or, not_false_eq_true, List.nodup_nil, and_true]
    exact ⟨⟨Ne.symm od.1, na.1.1, na.1.2.1, na.1.2.2⟩, ⟨od.2.1.1, od.2.1.2.1, od.2.1.2.2.1⟩, na.2⟩⟩
  refine law_change22 draws rfl rfl rfl rfl ⟨_, rfl, rfl⟩ ⟨_, rfl, rfl⟩ ns w2 hk hz fun key o B k' kv' h0 h1 h2 h3 h4 h5 f => c key o B k' kv' h3 h4 ?_
  have op := W.op
  rw [mem_cel] at op
  simp only [not_or] at op
  refine ⟨⟨⟨h5.ht, h5.src, W.T.W.hh.put o h0 h1, W.T.W.na, fun r hr => (W.T.W.kp r hr).fr' f fun z hz hl => ?_, fun r hr => (W.T.W.ok r hr).put W.T.W.hh key o, W.T.W.out, W.T.W.sep⟩, f.at ?_ W.T.su, W.T.so.put W.T.W.hh key o, W.T.ou, W.T.oq⟩, h5.hd, h5.r, f.at ?_ W.hp, W.od, W.op, W.dp⟩
  · have ho := W.T.W.out r hr z hz
    rw [List.mem_singleton.mp hr] at hz
    simp only [List.mem_cons, List.not_mem_nil, or_false, not_or] at ho hl
    rcases hl with e | e | e | e | e
    · exact ho.1 e
    · exact od.2.2 (by rw [← e]; exact hz)
    · exact ho.2.1 e
    · exact ho.2.2.1 e
    · exact ho.2.2.2 e
  · simp only [List.mem_cons, List.not_mem_nil, or_false, not_or]
    exact ⟨ou.1, Ne.symm od.2.1.2.2.2, ou.2⟩
  · simp only [List.mem_cons, List.not_mem_nil, or_false, not_or]
    exact ⟨op.1, Ne.symm W.dp, op.2.1.1, op.2.1.2.1, op.2.1.2.2.1⟩
theorem W4.mark {S' : TK} (W : W4 A t k d a v kv q w u m p S) : W4 (up A p (.dt S')) t k d a v kv q w u m p S' := by
  have op := W.op
  have f : Fr [p] A (up A p (.dt S')) := Fr.refl.up (by simp)
  refine ⟨W.T.fr f (by simp [Ne.symm op.1]) fun z hz hc => ?_, by rw [up_ne W.dp]; exact W.hd, W.r, up_same, W.od, W.op, W.dp⟩
  rw [List.mem_singleton.mp hz] at hc
  refine op.2 (mem_cel.mpr ?_)
  rcases hc with hc | ⟨c, hc, hc2⟩
  · simp only [List.mem_cons, List.not_mem_nil, or_false] at hc
    exact .inl hc
  · rw [List.mem_singleton.mp hc] at hc2
    exact .inr hc2
/-! ### pages led on to an end -/
theorem rows_till {R : RF} {x e y : Int} (h1 : x ≤ e) (h2 : x ≤ y) (h0 : 0 ≤ x) : ((((rowsF R x e).filter fun p => decide (p.1 < y)).map (·.2)).sum) = sumR R x (if e ≤ y then e else y) := by
  split
  · next c =>
    have : (rowsF R x e).filter (fun p => decide (p.1 < y)) = rowsF R x e := List.filter_eq_self.mpr fun z hz => decide_eq_true (by have := mem_rowsF.mp hz; omega)
    rw [this]; rfl
  · next c =>
    have h3 : rowsF R x e = rowsF R x y ++ rowsF R y e := (rowsF_app h2 (by omega)).symm
    have e1 : (rowsF R x y).filter (fun p => decide (p.1 < y)) = rowsF R x y := List.filter_eq_self.mpr fun z hz => decide_eq_true (by have := mem_rowsF.mp hz; omega)
    have e2 : (rowsF R y e).filter (fun p => decide (p.1 < y)) = [] := List.filter_eq_nil_iff.mpr fun z hz => by have := mem_rowsF.mp hz; simp; omega
    rw [h3, List.filter_append, e1, e2, List.append_nil]; rfl
/-- how far the sum goes -/
def tillK (y : Int) : Option Int → Int
  | none => y
  | some h => if h ≤ y then h else y
theorem paged_loop (hp : okSt (x, y)) {P : Pst} {A0 : AH} (fin : ∀ (B : AH) (v' : SV) (w' : DP.KV) (o : Option Int) (d5 d6 d7 : Option D), WT B t k a v' [(q, w')] u m → Fr (cel a q u) A0 B → v'.cs = v.cs → v'.Rs = v.Rs → P.nx [some (.ref q.k), some (.int x), some (.int y), some (.int (sumR v.now x y)), some (optD o), d5, d6, d7] B) : ∀ (r : Nat) (o : Option Int) (B : AH) (v' : SV) (w' : DP.KV) (d5 d6 d7 : Option D), (∀ h, o = some h → x ≤ h ∧ (100 - h).toNat < r) → 0 < r → WT B t k a v' [(q, w')] u m → Fr (cel a q u) A0 B → v'.cs = v.cs → v'.Rs = v.Rs →
    dWhile (wpT (callN gm (n + 8)) gm (.and (.val (.isn true (.var 4))) (.val (.cmp .lt (.var 4) (.var 2))))) (wpSs (callN gm (n + 8)) gm ir_law_paged_b1) r P [some (.ref q.k), some (.int x), some (.int y), some (.int (sumR v.now x (tillK y o))), some (optD o), d5, d6, d7] B
  | 0, o, B, v', w', d5, d6, d7, ho, hr, _, _, _, _ => by omega
  | r + 1, none, B, v', w', d5, d6, d7, ho, hr, T, fB, h1, h2 => by
    rw [show optD none = D.non from rfl, show tillK y none = y from rfl]
    unfold dWhile
    walk_at "wpx"
    exact fin B v' w' none d5 d6 d7 T fB h1 h2
  | r + 1, some h, B, v', w', d5, d6, d7, ho, hr, T, fB, e1, e2 => by
    obtain ⟨g1, g2⟩ := ho h rfl
    have p0 : 0 ≤ x := hp.1
    have p1 : x < y := hp.2.1
    have p2 : y ≤ 100 := hp.2.2
    have en : v'.now = v.now := by unfold SV.now; rw [e2]
    have ih := paged_loop hp fin r
    rw [show optD (some h) = D.int h from rfl, show tillK y (some h) = if h ≤ y then h else y from rfl]
    unfold dWhile
    walk_at "wpx"
    cases c : decide (h < y) with
    | false =>
      have c := of_decide_eq_false c
      walk_at "wpx"
      have := fin B v' w' (some h) d5 d6 d7 T fB e1 e2
      rw [show (if h ≤ y then h else y) = y by split <;> omega]
      exact this
    | true =>
      have c := of_decide_eq_true c
      rw [show (if h ≤ y then h else y) = h from if_pos (by omega)]
      walk_at "wpx"
      unfold ir_law_paged_b1 at ih ⊢
      walk_at "wpx"
      rw [x_meth (f := 43) ⟨_, rfl, rfl⟩ (T.W.kp1 (i := 0) rfl).o]
      walk_at "wpx"
      refine T.kpage (n := n) kpg ⟨_, rfl, rfl⟩ rfl (i := 0) rfl (by omega) (by omega) (by decide) fun j C hE TC fC => ?_
      rw [en] at hE
      rw [en]
      obtain ⟨f1, f2, f3⟩ := pgS_v w' v' h j
      generalize hv2 : (pgS w' v' h j).2 = v2 at TC f1 f2 f3
      generalize hw2 : (pgS w' v' h j).1 = w2 at TC
      have TC : WT C t k a v2 [(q, w2)] u m := TC
      have fC : Fr (cel a q u) A0 C := fB.trans (fC.mono (by intro z hz; unfold cel KA.L; simp at hz ⊢; rcases hz with h | h | h | h <;> simp [h]))
      have fw : ∀ (o' : Option Int) (e : Int), (o' = none → e = 100) → (∀ b, o' = some b → h < b ∧ b < 100 ∧ e = b) → h ≤ e → (rowsF v.now h 100).take (3 : Int).toNat = rowsF v.now h e → sumR v.now x h + ((((rowsF v.now h 100).take (3 : Int).toNat).filter fun p => decide (p.1 < y)).map (·.2)).sum = sumR v.now x (tillK y o') := fun o' e ha hb he ht => by
        rw [ht, rows_till he (by omega) (by omega), sumR_app g1 (by split <;> omega)]
        congr 1
        cases o' with
        | none => rw [ha rfl]; show (if (100 : Int) ≤ y then 100 else y) = y; split <;> omega
        | some b => obtain ⟨_, _, rfl⟩ := hb b rfl; rfl
      have all : ∃ o', pgK (rowsF v.now h 100) h 3 = o' ∧ sumR v.now x h + ((((rowsF v.now h 100).take (3 : Int).toNat).filter fun p => decide (p.1 < y)).map (·.2)).sum = sumR v.now x (tillK y o') ∧ ∀ b, o' = some b → h < b ∧ b < 100 := by
        cases ek : pgK (rowsF v.now h 100) h 3 with
        | none =>
          obtain ⟨i1, _⟩ := pgK_none (by decide) ek
          exact ⟨none, rfl, fw none 100 (fun _ => rfl) (fun b hb => by cases hb) (by omega) i1, fun b hb => by cases hb⟩
        | some b =>
          obtain ⟨L', p, i1, i2, i3, i4, i5, i6⟩ := pgK_some (by decide) ek
          exact ⟨some b, rfl, fw (some b) b (fun h => by cases h) (fun b' hb => by injection hb with hb; subst hb; exact ⟨i3, i4, rfl⟩) (by omega) i6.symm, fun b' hb => by injection hb with hb; subst hb; exact ⟨i3, i4⟩⟩
      obtain ⟨o', eo, es, hb⟩ := all
      rw [eo]
      have hlL : ((rowsF v.now h 100).take (3 : Int).toNat).length ≤ 100000 := by
        have := rowsF_len v.now h 100
        rw [List.length_take]; omega
      generalize (rowsF v.now h 100).take (3 : Int).toNat = L at es hlL ⊢
      walk_at "wpx"
      refine later_go ?_
      walk_at "wgo"
      refine comp_if prD (fun p => decide (p.1 < y)) (fun p => .int p.2) True.intro (fun z hz R1 R2 h1 h2 => ?_) ?_
      · rw [show prD z = .tup [.int z.1, .int z.2] from rfl]
        walk_at "wgo"
        cases c2 : decide (z.1 < y) with
        | true => walk_at "wgo"; exact h1 c2
        | false => walk_at "wgo"; exact h2 c2
      refine newL_fz ?_
      rw [show ((L.filter fun p => decide (p.1 < y)).map fun p => D.int p.2) = ((L.filter fun p => decide (p.1 < y)).map (·.2)).map .int by rw [List.map_map]; rfl, x_sumF]
      walk_at "wpx"
      rw [es]
      refine later_go ?_
      walk_at "wpx"
      refine ih o' C v2 w2 _ _ _ (fun b hb2 => ?_) (by omega) TC fC (f2.trans e1) (f3.trans e2)
      obtain ⟨i1, i2⟩ := hb b hb2
      omega
theorem paged_ok (T : WT A t k a v [(q, w)] u m) (hp : okSt (x, y)) (c : ∀ B v' w', WT B t k a v' [(q, w')] u m → Fr (cel a q u) A B → v'.cs = v.cs → v'.Rs = v.Rs → Q (.int (sumR v.now x y)) B) : callN gm (n + 9) 187 [.ref q.k, .int x, .int y] A Q E := by
  have p0 : 0 ≤ x := hp.1
  have p1 : x < y := hp.2.1
  refine callN_mk (show gm.fn 187 = some ⟨3, 8, ir_law_paged⟩ from rfl) rfl ?_
  unfold ir_law_paged
  walk_at "wpx"
  refine later_go ?_
  walk_at "wpx"
  refine ⟨102, ?_⟩
  have h := paged_loop (n := n) (t := t) (k := k) (a := a) (v := v) (q := q) (u := u) (m := m) (P := ⟨fun δ' A' => later (callN gm (n + 8)) gm [.ret (.var 3)] (endP Q E) δ' A', (endP Q E).rt, (endP Q E).ct, (endP Q E).ex⟩) (A0 := A) hp (fun B v' w' o d5 d6 d7 TB f e1 e2 => by
    refine later_go ?_
    walk_at "wpx"
    exact ret_here (c B v' w' TB f e1 e2)) 102 (some x) A v w none none none (fun h hh => by injection hh with hh; subst hh; omega) (by omega) T Fr.refl rfl rfl
  have e0 : sumR v.now x (tillK y (some x)) = 0 := by
    show sumR v.now x (if x ≤ y then x else y) = 0
    rw [if_pos (by omega)]
    unfold sumR
    rw [rowsF_nil (Int.le_refl _)]; rfl
  rw [e0] at h
  exact h
theorem stands_ok (T : WT A t k a v [(q, w)] u m) (hp : A p = some (.dt S)) (hm : m.heard = v.cs.length) (hs : ∀ e ∈ m.kept, StE S v v.cs.length e) (c : Q (.bl true) A) : callN gm (n + 9) 188 [.ref a.s, .ref p, .tup (m.kept.map triD)] A Q E := by
  have hat : v.at m.heard = v.now := by rw [hm, ← now_at T.W.hh.len]
  have hsrc := T.W.src
  refine callN_mk (show gm.fn 188 = some ⟨3, 9, ir_law_kept_stands⟩ from rfl) rfl ?_
  unfold ir_law_kept_stands
  walk_at "wpx"
  refine for_inv (fun i δ B => ∃ d3 d4 d5 d6, δ = [some (.ref a.s), some (.ref p), some (.tup (m.kept.map triD)), d3, d4, d5, d6, none, none] ∧ A = B) _ 0 (fun i z δ B N hi hI hN => ?_) ⟨none, none, none, none, rfl, rfl⟩ ?_
  · obtain ⟨d3, d4, d5, d6, rfl, rfl⟩ := hI
    obtain ⟨e, he, rfl⟩ := List.getElem?_map ▸ hi |> Option.map_eq_some_iff.mp
    have he := List.mem_of_getElem? he
    have oe := T.so.ok e he
    rw [hat] at oe
    obtain ⟨c0, s1, s2, s3⟩ := hs e he
    have e3 : rowsF (v.at c0) e.1 e.2.1 = rowsF v.now e.1 e.2.1 := by
      rw [now_at T.W.hh.len]; exact (s3 v.cs.length (by omega) (Int.le_refl _)).symm
    have hz := rowsF_len v.now e.1 e.2.1
    refine ⟨True.intro, ?_⟩
    rw [show triD e = .tup [.int e.1, .int e.2.1, .int e.2.2] from rfl]
    unfold ir_law_kept_stands_b1
    walk_at "wpx"
    rw [wq_tnin]
    walk_at "wpx"
    refine x_tnin hp s1 ?_
    walk_at "wpx"
    refine later_go ?_
    walk_at "wpx"
    refine later_go ?_
    walk_at "wpx"
    rw [x_meth (f := 25) ⟨_, rfl, rfl⟩ hsrc.o]
    walk_at "wpx"
    rw [wq_ixt]
    walk_at "wpx"
    refine x_ixt hp s1 ?_
    walk_at "wpx"
    refine look_at_ok (n := n + 5) lkg hsrc (Int.natCast_nonneg _) s2 ?_
    rw [e3]
    walk_at "wpx"
    refine later_go ?_
    walk_at "wpx"
    rw [x_meth (f := 24) ⟨_, rfl, rfl⟩ hsrc.o]
    walk_at "wpx"
    refine look_ok (n := n + 4) lkg rfl hsrc ?_
    walk_at "wpx"
    refine ne_same itr_spd6 ?_
    walk_at "wpx"
    refine ⟨DL.size_ok (by rw [List.length_map]; omega), ?_⟩
    refine sum_rows (fun p K hK => ?_) ?_
    · rw [show prD p = .tup [.int p.1, .int p.2] from rfl]
      walk_at "wpx"
      exact hK
    rw [oe]
    walk_at "wgo"
    exact hN _ _ ⟨_, _, _, _, rfl, rfl⟩
  rintro δ B ⟨d3, d4, d5, d6, rfl, rfl⟩
  refine ⟨True.intro, ?_⟩
  walk_at "wgo"
  exact ret_here c
theorem ndin_T3 {e : I3} {l : List I3} {A : AH} {Q : QE} (q : Q (.bl (!decide (e ∈ l))) A) : dCmp .ndin (triD e) (.tup (l.map triD)) A Q :=
  (show dCmp .ndin (triD e) (.fl (l.map triD)) A Q from ndin_F3 q)
theorem b2_ok (ns : List Int) {e : I3} {l : List I3} {d2 d8 d9 d10 d11 d13 d14 d15 d17 d18 : Option D} (W : W4 A t k d a v kv q w u m p S) (hS : S.length < 90000)
    (f : ∀ B S', S'.length ≤ S.length + 1 → W4 B t k d a v kv q w u m p S' → (∀ g, StE S v v.cs.length g → StE S' v v.cs.length g) → (e ∈ l ∨ StE S' v v.cs.length e) → P.nx [some (.rol (ns.map .int)), some (.ref t), d2, some (.ref d), some (.ref a.s), some (.ref q.k), some (.ref u), some (.ref p), d8, d9, d10, d11, some (.tup (l.map triD)), d13, d14, d15, some (triD e), d17, d18] B) :
    wpSs (callN gm (n + 9)) gm ir_law_b2 P [some (.rol (ns.map .int)), some (.ref t), d2, some (.ref d), some (.ref a.s), some (.ref q.k), some (.ref u), some (.ref p), d8, d9, d10, d11, some (.tup (l.map triD)), d13, d14, d15, some (triD e), d17, d18] A := by
  unfold ir_law_b2
  walk_at "wpx"
  refine ndin_T3 ?_
  by_cases c : e ∈ l
  · rw [decide_eq_true c]
    walk_at "wpx"
    refine later_go ?_
    walk_at "wpx"
    exact f A S (by omega) W (fun g h => h) (.inl c)
  · rw [decide_eq_false c]
    walk_at "wpx"
    refine later_go ?_
    walk_at "wpx"
    rw [wq_subt]
    walk_at "wpx"
    rw [x_meth (f := 22) ⟨_, rfl, rfl⟩ W.T.W.src.o]
    walk_at "wpx"
    refine clock_ok (n := n + 8) rfl W.T.W.src ?_
    walk_at "wpx"
    rw [wq_cutk]
    rw [show triD e = .tup [.int e.1, .int e.2.1, .int e.2.2] from rfl]
    walk_at "wpx"
    refine x_cutk ?_
    refine x_subt W.hp (by omega) ?_
    refine later_go ?_
    walk_at "wpx"
    exact f _ _ putT_len W.mark (fun g h => StE.mark W.T.W.hh (.inl h)) (.inr (StE.mark W.T.W.hh (.inr ⟨rfl, rfl⟩)))
theorem b3_ok (ns : List Int) {e : I3} {d2 d8 d9 d10 d11 d12 d13 d14 d15 d17 d18 : Option D} (W : W4 A t k d a v kv q w u m p S) (hs : StE S v v.cs.length e)
    (f : P.nx [some (.rol (ns.map .int)), some (.ref t), d2, some (.ref d), some (.ref a.s), some (.ref q.k), some (.ref u), some (.ref p), d8, d9, d10, d11, d12, d13, d14, d15, some (triD e), d17, d18] A) :
    wpSs (callN gm (n + 9)) gm ir_law_b3 P [some (.rol (ns.map .int)), some (.ref t), d2, some (.ref d), some (.ref a.s), some (.ref q.k), some (.ref u), some (.ref p), d8, d9, d10, d11, d12, d13, d14, d15, some (triD e), d17, d18] A := by
  obtain ⟨c0, s1, s2, s3⟩ := hs
  unfold ir_law_b3
  rw [show triD e = .tup [.int e.1, .int e.2.1, .int e.2.2] from rfl] at f ⊢
  walk_at "wpx"
  rw [wq_ixt]
  walk_at "wpx"
  rw [wq_cutk]
  walk_at "wpx"
  refine x_cutk ?_
  refine x_ixt W.hp s1 ?_
  walk_at "wpx"
  rw [x_ixT (atI0 _ _)]
  walk_at "wpx"
  rw [x_ixT (atI1 _ _ _)]
  walk_at "wpx"
  refine holds_to_ok (n := n + 5) (c := c0) lkg rfl W.T.W.src (by omega) fun o ho => ?_
  have eo : o = none := by
    cases o with
    | none => rfl
    | some b =>
      obtain ⟨z, e1, e2, e3, e4, e5⟩ := ho
      exact absurd (s3 (z + 1) (by omega) (by omega)) e5
  subst eo
  rw [show optD none = D.non from rfl]
  walk_at "wpx"
  refine later_go ?_
  walk_at "wpx"
  exact f
theorem b4_ok (ns : List Int) {d2 d8 d9 d10 d11 d12 d13 d14 d15 d16 : Option D} (W : W4 A t k d a v kv q w u m p S) (hs : ∀ e ∈ m.kept, StE S v m.heard e) (hk : k < 20000) (hz : v.cs.length ≤ 200) (hS : S.length ≤ 50000)
    (f : ∀ e9 e10 e11 e12 e13 e14 e15 e16 k' B v' kv' w' m' S', k' ≤ k + 20 → v'.cs.length ≤ v.cs.length + 2 → S'.length ≤ S.length + 100 → W4 B t k' d a v' kv' q w' u m' p S' → (∀ e ∈ m'.kept, StE S' v' m'.heard e) → P.nx [some (.rol (ns.map .int)), some (.ref t), d2, some (.ref d), some (.ref a.s), some (.ref q.k), some (.ref u), some (.ref p), d8, e9, e10, e11, e12, e13, e14, e15, e16, none, none] B) :
    wpSs (callN gm (n + 9)) gm ir_law_b4 P [some (.rol (ns.map .int)), some (.ref t), d2, some (.ref d), some (.ref a.s), some (.ref q.k), some (.ref u), some (.ref p), d8, d9, d10, d11, d12, d13, d14, d15, d16, none, none] A := by
  -- what is kept now, and behind
  have fin : ∀ (B : AH) (k1 : Nat) (v1 : SV) (kv1 : PL) (w1 : DP.KV) (m1 m2 : SmV) (st : Int × Int) (e9 e13 e14 e15 : Option D), k1 ≤ k + 12 → v1.cs.length ≤ v.cs.length + 2 → W4 B t k1 d a v1 kv1 q w1 u m2 p S → (∀ e ∈ m1.kept, StE S v1 v1.cs.length e) → m2.heard = v1.cs.length → later (callN gm (n + 9)) gm (ir_law_b4.drop 9) P [some (.rol (ns.map .int)), some (.ref t), d2, some (.ref d), some (.ref a.s), some (.ref q.k), some (.ref u), some (.ref p), d8, e9, some (.int st.1), some (.int st.2), some (.tup (m1.kept.map triD)), e13, e14, e15, d16, none, none] B := by
    intro B k1 v1 kv1 w1 m1 m2 st e9 e13 e14 e15 hk1 hz1 W1 hs1 hm2
    have hkl := W1.T.so.few
    refine later_go ?_
    unfold ir_law_b4
    simp only [List.drop_succ_cons, List.drop_zero]
    walk_at "wpx"
    rw [x_meth (f := 46) ⟨_, rfl, rfl⟩ W1.T.su]
    walk_at "wpx"
    refine sums_ok (n := n + 8) rfl W1.T.su ?_
    walk_at "wpx"
    refine for_inv (fun j δ C => ∃ d16 S', δ = [some (.rol (ns.map .int)), some (.ref t), d2, some (.ref d), some (.ref a.s), some (.ref q.k), some (.ref u), some (.ref p), d8, e9, some (.int st.1), some (.int st.2), some (.tup (m1.kept.map triD)), e13, e14, e15, d16, none, none] ∧ W4 C t k1 d a v1 kv1 q w1 u m2 p S' ∧ S'.length ≤ S.length + j ∧ (∀ e ∈ m1.kept, StE S' v1 v1.cs.length e) ∧ ∀ e ∈ m2.kept.take j, StE S' v1 v1.cs.length e) _ 0 (fun i z δ C M hi hI hM => ?_) ⟨_, S, rfl, W1, Nat.le_refl _, hs1, fun e he => by rw [List.take_zero] at he; cases he⟩ ?_
    · obtain ⟨d16, S', rfl, WC, hl, h1, h2⟩ := hI
      obtain ⟨e, he, rfl⟩ := List.getElem?_map ▸ hi |> Option.map_eq_some_iff.mp
      have hil := (List.getElem?_eq_some_iff.mp he).1
      rw [Nat.zero_add] at hl h2 hM
      refine ⟨True.intro, ?_⟩
      rw [g_nm]
      walk_at "wpx"
      refine b2_ok (n := n) ns WC (by omega) fun C2 S2 g1 g2 g3 g4 => hM _ _ ⟨_, S2, rfl, g2, by omega, fun e he => g3 e (h1 e he), fun g hg => ?_⟩
      rw [List.take_add_one, he] at hg
      rcases List.mem_append.mp hg with hg | hg
      · exact g3 g (h2 g hg)
      · rw [List.mem_singleton.mp hg]
        exact g4.elim (fun h => g3 e (h1 e h)) fun h => h
    rintro δ C ⟨d16, S', rfl, WC, hl, h1, h2⟩
    rw [Nat.zero_add, List.length_map] at hl h2
    rw [List.take_length] at h2
    refine ⟨True.intro, ?_⟩
    refine later_go ?_
    walk_at "wpx"
    rw [x_meth (f := 46) ⟨_, rfl, rfl⟩ WC.T.su]
    walk_at "wpx"
    refine sums_ok (n := n + 8) rfl WC.T.su ?_
    refine stands_ok (n := n) WC.T WC.hp hm2 h2 ?_
    walk_at "wpx"
    refine later_go ?_
    walk_at "wpx"
    refine later_go ?_
    walk_at "wpx"
    rw [x_meth (f := 46) ⟨_, rfl, rfl⟩ WC.T.su]
    walk_at "wpx"
    refine sums_ok (n := n + 8) rfl WC.T.su ?_
    walk_at "wpx"
    refine for_inv (fun j δ D' => ∃ d16, δ = [some (.rol (ns.map .int)), some (.ref t), d2, some (.ref d), some (.ref a.s), some (.ref q.k), some (.ref u), some (.ref p), d8, e9, some (.int st.1), some (.int st.2), some (.tup (m1.kept.map triD)), e13, e14, e15, d16, none, none] ∧ C = D') _ 0 (fun i z δ D' M hi hI hM => ?_) ⟨_, rfl, rfl⟩ ?_
    · obtain ⟨d16, rfl, rfl⟩ := hI
      obtain ⟨e, he, rfl⟩ := List.getElem?_map ▸ hi |> Option.map_eq_some_iff.mp
      refine ⟨True.intro, ?_⟩
      rw [g_nm]
      walk_at "wpx"
      exact b3_ok (n := n) ns WC (h2 e (List.mem_of_getElem? he)) (hM _ _ ⟨_, rfl, rfl⟩)
    rintro δ D' ⟨d16, rfl, rfl⟩
    refine ⟨True.intro, ?_⟩
    refine later_go ?_
    walk_at "wpx"
    exact f _ _ _ _ _ _ _ _ k1 C v1 kv1 w1 m2 S' (by omega) (by omega) (by omega) WC (by rw [hm2]; exact h2)
  generalize hfs : ir_law_b4.drop 9 = fs at fin
  unfold ir_law_b4 at hfs ⊢
  simp only [List.drop_succ_cons, List.drop_zero] at hfs
  rw [hfs]
  -- the changes
  walk_at "wpx"
  refine ⟨by decide, newL_fz ?_⟩
  refine pick_fl draws rfl (n + 7) ns W.T.W.ht (by omega) (List.cons_ne_nil _ _) fun z hz0 => ?_
  have W := W.draw (k' := k + 1)
  generalize up A t (tw (k + 1)) = A1 at W ⊢
  obtain ⟨r, rfl, r0, r1⟩ : ∃ r : Int, z = .int r ∧ 0 ≤ r ∧ r ≤ 2 := by
    simp only [List.mem_cons, List.not_mem_nil, or_false] at hz0
    rcases hz0 with rfl | rfl | rfl | rfl <;> exact ⟨_, rfl, by decide, by decide⟩
  walk_at "wpx"
  refine ⟨by omega, ?_⟩
  refine for_inv (fun j δ B => ∃ d9 v' kv' k', δ = [some (.rol (ns.map .int)), some (.ref t), d2, some (.ref d), some (.ref a.s), some (.ref q.k), some (.ref u), some (.ref p), d8, d9, d10, d11, d12, d13, d14, d15, d16, none, none] ∧ W4 B t k' d a v' kv' q w u m p S ∧ (∀ e ∈ m.kept, StE S v' m.heard e) ∧ v'.cs.length ≤ v.cs.length + j ∧ k' ≤ k + 1 + 4 * j) _ 0 (fun i z δ B M hi hI hM => ?_) ⟨_, v, kv, k + 1, rfl, W, hs, Nat.le_refl _, Nat.le_refl _⟩ ?_
  · obtain ⟨d9, v', kv', k', rfl, WB, h1, h2, h3⟩ := hI
    have hil := (List.getElem?_eq_some_iff.mp hi).1
    rw [rgD_len] at hil
    rw [Nat.zero_add] at h2 h3 hM
    refine ⟨True.intro, ?_⟩
    rw [g_nm]
    unfold ir_law_b1
    walk_at "wpx"
    refine WB.change (n := n + 6) ns (by omega) (by omega) fun key o C k2 kv2 g3 g4 WC => ?_
    refine later_go ?_
    walk_at "wpx"
    exact hM _ _ ⟨_, v'.put key o, kv2, k2, rfl, WC, fun e he => (h1 e he).put WB.T.W.hh WB.T.so.h1 key o, by rw [put_len]; omega, by omega⟩
  rintro δ B ⟨d9, v1, kv1, k1, rfl, W1, hs1, hz1, hk1⟩
  rw [Nat.zero_add, rgD_len] at hz1 hk1
  refine ⟨True.intro, ?_⟩
  refine later_go ?_
  walk_at "wpx"
  refine law_window22 draws rfl rfl ns W1.T.W.ht (by omega) fun pp hpp => ?_
  have W1 := W1.draw (k' := k1 + 3)
  generalize up B t (tw (k1 + 3)) = B1 at W1 ⊢
  obtain ⟨x, y⟩ := pp
  rw [prD_eq]
  walk_at "wpx"
  refine later_go ?_
  walk_at "wpx"
  rw [x_meth (f := 48) ⟨_, rfl, rfl⟩ W1.T.su]
  walk_at "wpx"
  have hs2 := StE.hear W1.T.so W1.T.W.hh hs1
  refine W1.T.shear (n := n + 5) smg fun B2 T2 f2 => ?_
  have W2 := W1.step T2 (f2.mono (by intro z hz; rw [List.mem_singleton.mp hz]; exact mem_cel.mpr (.inl (.inr (.inr (.inr rfl)))))) rfl
  have hm2 : (m.hear v1).heard = v1.cs.length := rfl
  have hs2 : ∀ e ∈ (m.hear v1).kept, StE S v1 v1.cs.length e := hs2
  generalize m.hear v1 = m1 at W2 hm2 hs2
  refine later_go ?_
  walk_at "wpx"
  rw [x_meth (f := 46) ⟨_, rfl, rfl⟩ W2.T.su]
  walk_at "wpx"
  refine sums_ok (n := n + 8) rfl W2.T.su ?_
  rw [x_meth (f := 27) ⟨_, rfl, rfl⟩ W2.T.W.src.o]
  walk_at "wpx"
  refine told_ok (n := n + 8) rfl W2.T.W.src ?_
  rw [x_ixT (atI0 _ _)]
  walk_at "wpx"
  refine later_go ?_
  walk_at "wpx"
  rw [x_meth (f := 47) ⟨_, rfl, rfl⟩ W2.T.su]
  walk_at "wpx"
  refine sasked_ok (n := n + 8) rfl W2.T.su ?_
  refine later_go ?_
  walk_at "wpx"
  rw [x_meth (f := 50) ⟨_, rfl, rfl⟩ W2.T.su]
  walk_at "wpx"
  obtain ⟨_, a2, a3, a4, _⟩ := asked_all5 (x := x) (y := y) hm2
  refine W2.T.sask (n := n + 3) smg hpp fun B3 T3 f3 => ?_
  have W3 := W2.step T3 (f3.mono (by intro z hz; simp only [List.mem_cons, List.not_mem_nil, or_false] at hz; refine mem_cel.mpr (.inl ?_); rcases hz with h | h <;> simp [h])) (src_now _ _ _ _)
  obtain ⟨c1, c2⟩ := src_cs m1 v1 x y
  have c3 := src_now m1 v1 x y
  generalize hv2 : m1.src v1 x y = v2 at W3 a4 c1 c2 c3
  generalize m1.asked v1 x y = m2 at W3 a2 a3
  refine later_go ?_
  walk_at "wpx"
  rw [x_meth (f := 27) ⟨_, rfl, rfl⟩ W3.T.W.src.o]
  walk_at "wpx"
  refine told_ok (n := n + 8) rfl W3.T.W.src ?_
  rw [x_ixT (atI0 _ _)]
  walk_at "wpx"
  rw [x_meth (f := 47) ⟨_, rfl, rfl⟩ W3.T.su]
  walk_at "wpx"
  refine sasked_ok (n := n + 8) rfl W3.T.su ?_
  walk_at "wpx"
  rw [decide_eq_true (by omega : v2.na - v1.na = m2.many - m1.many)]
  walk_at "wpx"
  refine later_go ?_
  walk_at "wpx"
  refine later_go ?_
  walk_at "wpx"
  rw [x_meth (f := 42) ⟨_, rfl, rfl⟩ (W3.T.W.kp1 (i := 0) rfl).o]
  walk_at "wpx"
  refine W3.T.kask (n := n + 2) kpg (i := 0) rfl hpp fun B4 T4 f4 => ?_
  have W4' := W3.step (w' := w.asked v2 x y) T4 (f4.mono (by intro z hz; unfold cel KA.L; simp at hz ⊢; rcases hz with h | h | h | h <;> simp [h])) (asks_now _ _)
  obtain ⟨c4, c5⟩ := asks_cs ((w.hear v2).plan x y) v2
  have c6 : (v2.asks ((w.hear v2).plan x y)).now = v2.now := asks_now _ _
  generalize v2.asks ((w.hear v2).plan x y) = v3 at W4' c4 c5 c6
  generalize w.asked v2 x y = w3 at W4'
  rw [c3]
  have hrl := rowsF_len v1.now x y
  walk_at "wpx"
  refine ⟨DL.size_ok (by rw [List.length_map]; omega), ?_⟩
  refine sum_rows (fun p K hK => ?_) ?_
  · rw [show prD p = .tup [.int p.1, .int p.2] from rfl]
    walk_at "wpx"
    exact hK
  walk_at "wgo"
  refine paged_ok (n := n) W4'.T hpp fun B5 v4 w4 T5 f5 g1 g2 => ?_
  have e4 : v4.now = v3.now := by unfold SV.now; rw [g2]
  have W5 := W4'.step T5 f5 e4
  rw [c6, c3]
  walk_at "wgo"
  have hcs : v4.cs.length = v1.cs.length := by rw [g1, c4, c1]
  have hRs : v4.Rs = v1.Rs := by rw [g2, c5, c2]
  refine fin B5 _ v4 _ w4 m1 m2 (x, y) _ _ _ _ (by omega) (by omega) W5 (fun e he => ?_) (by rw [hcs]; exact a3)
  rw [hcs]
  exact (hs2 e he).of hRs
theorem x_dnt : dBi .dnt [] A Q = ∀ p, A p = none → Q (.ref p) (up A p (.dt [])) := (rfl)
theorem b5_ok (ns : List Int) {N : DSt → AH → Prop} {rt : QE} {ex : XP} (ht : A t = some (tw k)) (hk : k < 10000) (d2 d3 d4 d5 d6 d7 d8 d9 d10 d11 d12 d13 d14 d15 d16 : Option D) (hN : ∀ d3 d4 d5 d6 d7 d8 d9 d10 d11 d12 d13 d14 d15 d16 k' A', k' ≤ k + 500 → A' t = some (tw k') → N [some (.rol (ns.map .int)), some (.ref t), d2, d3, d4, d5, d6, d7, d8, d9, d10, d11, d12, d13, d14, d15, d16, none, none] A') : wpSs (callN gm (n + 9)) gm ir_law_b5 ⟨N, rt, N, ex⟩ [some (.rol (ns.map .int)), some (.ref t), d2, d3, d4, d5, d6, d7, d8, d9, d10, d11, d12, d13, d14, d15, d16, none, none] A := by
  unfold ir_law_b5
  walk_at "wpx"
  refine law_rows22 draws rfl ns ht (by omega) fun d kv R k1 nd hne r hkl hk1 hk2 => ?_
  have htB : up (up A d (.dk (dkI kv))) t (tw k1) t = some (tw k1) := up_same
  have hdB : up (up A d (.dk (dkI kv))) t (tw k1) d = some (.dk (dkI kv)) := kp_up up_same hne.symm
  generalize up (up A d (.dk (dkI kv))) t (tw k1) = B at htB hdB ⊢
  refine later_go ?_
  walk_at "wpx"
  rw [x_sitems r hdB]
  walk_at "wgo"
  simp only [lstD]
  rw [x_make (show gm.cl 1 = some ⟨4, 21, _⟩ from rfl)]
  intro xa nxa
  refine src_init (G := gm) (n := n + 8) rfl nxa (fun p hp => by have := mem_rowsF.mp hp; omega) fun a C ea nst nch hC hf => ?_
  rw [r.ofRows] at hC
  subst ea
  refine ⟨trivial, ?_⟩
  have m1 : t ≠ a.s := ne_free htB nxa
  have m2 : t ≠ a.st := ne_free htB nst
  have m3 : t ≠ a.ch := ne_free htB nch
  have l1 : d ≠ a.s := ne_free hdB nxa
  have l2 : d ≠ a.st := ne_free hdB nst
  have l3 : d ≠ a.ch := ne_free hdB nch
  have W0 : WQ C t k1 a (SV.new R) [] := ⟨hf.at (by simp [m1, m2, m3]) htB, hC, Hist.new _, by
    simp only [List.nodup_cons, List.mem_cons, List.not_mem_nil, or_false, not_or, not_false_eq_true, List.nodup_nil, and_true]
    exact ⟨⟨m1, m2, m3⟩, ⟨hC.n1, hC.n2⟩, hC.n3⟩, (fun _ h => by cases h), (fun _ h => by cases h), (fun _ h => by cases h), fun _ _ _ _ _ h => by cases h⟩
  have hdC : C d = some (.dk (dkI kv)) := hf.at (by simp [l1, l2, l3]) hdB
  refine later_go ?_
  walk_at "wpx"
  refine ⟨by decide, newL_fz ?_⟩
  refine pick_fl draws rfl (n + 7) ns W0.ht (by omega) (List.cons_ne_nil _ _) fun z hz0 => ?_
  have W0 := W0.draw (k' := k1 + 1)
  have hdC : up C t (tw (k1 + 1)) d = some (.dk (dkI kv)) := by rw [up_ne hne.symm]; exact hdC
  generalize up C t (tw (k1 + 1)) = C1 at W0 hdC ⊢
  obtain ⟨room, rfl⟩ : ∃ room : Int, z = .int room := by
    simp only [List.mem_cons, List.not_mem_nil, or_false] at hz0
    rcases hz0 with rfl | rfl | rfl <;> exact ⟨_, rfl⟩
  walk_at "wpx"
  rw [x_make (show gm.cl 2 = some ⟨7, 33, _⟩ from rfl)]
  intro xq nxq
  refine W0.kmake (n := n + 7) rfl rfl ⟨_, rfl, rfl⟩ nxq fun q B1 eq W1 f1 hq => ?_
  subst eq
  refine ⟨trivial, ?_⟩
  have dq : d ∉ q.L := fun h => by have := hq d h; rw [hdC] at this; cases this
  have hd1 : B1 d = some (.dk (dkI kv)) := f1.at dq hdC
  walk_at "wpx"
  rw [x_make (show gm.cl 3 = some ⟨4, 45, _⟩ from rfl)]
  intro u nu
  refine sm_init (G := gm) (n := n + 7) rfl rfl ⟨_, rfl, rfl⟩ nu W1.src fun B3 hu f3 => ?_
  refine ⟨trivial, ?_⟩
  have lv := W1.live nu
  have du : d ≠ u := ne_free hd1 nu
  have hd3 : B3 d = some (.dk (dkI kv)) := f3.at (by simp [du]) hd1
  have W3 : WQ B3 t (k1 + 1) a (SV.new R) [(q, KV.new room 4 0)] := W1.fr f3 (fun z hz h => lv.1 z hz (List.mem_singleton.mp h)) fun c hc z hz h => lv.2 c hc z hz (List.mem_singleton.mp h)
  have T3 : WT B3 t (k1 + 1) a (SV.new R) [(q, KV.new room 4 0)] u (SmV.new 0) := ⟨W3, hu, SOK.new (SV.new R), fun h => lv.1 u h rfl, fun c hc h => lv.2 c hc u h rfl⟩
  walk_at "wpx"
  rw [x_dnt]
  intro p np
  have lv3 := W3.live np
  have up_ : u ≠ p := ne_free hu np
  have W : W4 (up B3 p (.dt [])) t (k1 + 1) d a (SV.new R) kv q (KV.new room 4 0) u (SmV.new 0) p [] := by
    have f : Fr [p] B3 (up B3 p (.dt [])) := Fr.refl.up (by simp)
    have pc : p ∉ cel a q u := fun h => by
      rcases mem_cel.mp h with (e | e | e | e) | h
      · exact lv3.1 a.s (by simp) e.symm
      · exact lv3.1 a.st (by simp) e.symm
      · exact lv3.1 a.ch (by simp) e.symm
      · exact up_ e.symm
      · exact lv3.2 (q, KV.new room 4 0) (by simp) p h rfl
    have dp : d ≠ p := ne_free hd3 np
    refine ⟨T3.fr f (by simp [lv3.1 t (by simp)]) fun z hz hc => ?_, by rw [up_ne dp]; exact hd3, r, up_same, ⟨hne.symm, fun h => ?_⟩, ⟨fun h => lv3.1 t (by simp) h.symm, pc⟩, dp⟩
    · rw [List.mem_singleton.mp hz] at hc
      refine pc (mem_cel.mpr ?_)
      rcases hc with hc | ⟨c, hc, hc2⟩
      · simp only [List.mem_cons, List.not_mem_nil, or_false] at hc
        exact .inl hc
      · rw [List.mem_singleton.mp hc] at hc2
        exact .inr hc2
    · rcases mem_cel.mp h with (e | e | e | e) | h
      · exact l1 e
      · exact l2 e
      · exact l3 e
      · exact du e
      · exact dq h
  generalize up B3 p (.dt []) = B4 at W ⊢
  walk_at "wpx"
  refine later_go ?_
  walk_at "wpx"
  refine ⟨by decide, ?_⟩
  refine for_inv (fun j δ B => ∃ d8 d9 d10 d11 d12 d13 d14 d15 d16 v' kv' k' w' m' S', δ = [some (.rol (ns.map .int)), some (.ref t), d2, some (.ref d), some (.ref a.s), some (.ref q.k), some (.ref u), some (.ref p), d8, d9, d10, d11, d12, d13, d14, d15, d16, none, none] ∧ W4 B t k' d a v' kv' q w' u m' p S' ∧ (∀ e ∈ m'.kept, StE S' v' m'.heard e) ∧ v'.cs.length ≤ 2 * j ∧ S'.length ≤ 100 * j ∧ k' ≤ k1 + 1 + 20 * j) _ 0 (fun i z δ B M hi hI hM => ?_) ⟨_, _, _, _, _, _, _, _, _, SV.new R, kv, k1 + 1, KV.new room 4 0, SmV.new 0, [], rfl, W, (fun e he => by cases he), Nat.le_refl _, Nat.le_refl _, Nat.le_refl _⟩ ?_
  · obtain ⟨d8, d9, d10, d11, d12, d13, d14, d15, d16, v', kv', k', w', m', S', rfl, WB, h1, h2, h3, h4⟩ := hI
    have hil := (List.getElem?_eq_some_iff.mp hi).1
    rw [rgD_len] at hil
    rw [Nat.zero_add] at h2 h3 h4 hM
    refine ⟨True.intro, ?_⟩
    rw [g_nm]
    walk_at "wpx"
    exact b4_ok (n := n) ns WB h1 (by omega) (by omega) (by omega) fun e9 e10 e11 e12 e13 e14 e15 e16 k2 B2 v2 kv2 w2 m2 S2 g1 g2 g3 g4 g5 => hM _ _ ⟨_, e9, e10, e11, e12, e13, e14, e15, e16, v2, kv2, k2, w2, m2, S2, rfl, g4, g5, by omega, by omega, by omega⟩
  rintro δ B ⟨d8, d9, d10, d11, d12, d13, d14, d15, d16, v', kv', k', w', m', S', rfl, WB, h1, h2, h3, h4⟩
  rw [Nat.zero_add, rgD_len] at h4
  refine ⟨True.intro, ?_⟩
  refine later_go ?_
  walk_at "wpx"
  exact hN _ _ _ _ _ _ _ _ _ _ _ _ _ _ k' B (by have : ((14 : Int) - 0).toNat = 14 := rfl; omega) WB.T.W.ht
end
theorem law_true : ∀ ns : List Int, ns.length ≤ 63 → callN gm 40 112 [.rol (ns.map .int)] (fun _ => none) (fun d _ => d = .bl true) (fun _ _ => False) := by
  intro ns _
  refine callN_mk (show gm.fn 112 = some ⟨1, 19, ir_law⟩ from rfl) rfl ?_
  unfold ir_law
  walk_at "wpx"
  intro t nt
  walk_at "wgo"
  refine ⟨by decide, ?_⟩
  refine for_inv (fun j δ B => ∃ d2 d3 d4 d5 d6 d7 d8 d9 d10 d11 d12 d13 d14 d15 d16, δ = [some (.rol (ns.map .int)), some (.ref t), d2, d3, d4, d5, d6, d7, d8, d9, d10, d11, d12, d13, d14, d15, d16, none, none] ∧ ∃ k, k ≤ 500 * j ∧ B t = some (tw k)) (rgD 0 3) 0 (fun i x δ B N hi hI hN => ?_) ⟨none, none, none, none, none, none, none, none, none, none, none, none, none, none, none, rfl, 0, by omega, up_same⟩ ?_
  · obtain ⟨d2, d3, d4, d5, d6, d7, d8, d9, d10, d11, d12, d13, d14, d15, d16, rfl, k, hk, hb⟩ := hI
    have hi8 := (rgD_get hi).2
    refine ⟨True.intro, ?_⟩
    rw [g_nm]
    walk_at "wpx"
    exact b5_ok (n := 30) ns hb (by omega) _ _ _ _ _ _ _ _ _ _ _ _ _ _ _ fun e3 e4 e5 e6 e7 e8 e9 e10 e11 e12 e13 e14 e15 e16 k' A' hk' ht' => hN _ _ ⟨_, e3, e4, e5, e6, e7, e8, e9, e10, e11, e12, e13, e14, e15, e16, rfl, k', by omega, ht'⟩
  · rintro δ B ⟨d2, d3, d4, d5, d6, d7, d8, d9, d10, d11, d12, d13, d14, d15, d16, rfl, k, hk, hb⟩
    refine ⟨True.intro, ?_⟩
    walk_at "wgo"
    exact ⟨_, DL.Sub.refl _, by trivial⟩
end Lk40

open PySem PySem.W PyProof.Rows
set_option maxRecDepth 100000 in
set_option maxHeartbeats 0 in
theorem PySem.Challenge.cw_keptranges_k40_whole_rows_and_sums_holds : PySem.Challenge.rw_keptranges_k40_whole_rows_and_sums.Holds := by
  w_on; o_law; k_head; (case hw => w_witness2)
  k_fill
  refine L2.walk_of (l := PySem.Challenge.rw_keptranges_k40_whole_rows_and_sums) (n := 63) (k := 80) (x := "_law_script") (CX := fun w => L2.CX PySem.Challenge.rw_keptranges_k40_whole_rows_and_sums.prog w) (sp := fun w => DL.spLaw _) rfl (by decide) rfl ⟨rfl, by decide, by decide⟩ (fun w h Y => PySem.W.kIn_of Y) ?F (fun _ _ a ns hl hO hS => ⟨a, ns, rfl, DL.sqR_of hO hS, hl, fun _ => rfl⟩) (fun _ _ _ _ _ h => DL.no_cx h)
  case F =>
    intro w mg fa h KX G hmg
    refine' Lk40.all_mk KX G hmg ?aC_Source ?aC_Keeper ?aC_Summer ?a0 ?i0 ?l0 ?c0 ?k0 ?a1 ?i1 ?l1 ?c1 ?k1 ?a2 ?i2 ?l2 ?c2 ?k2 ?a3 ?i3 ?l3 ?c3 ?k3 ?a4 ?i4 ?l4 ?c4 ?k4 ?a5 ?i5 ?l5 ?c5 ?k5 ?a6 ?l6 ?c6 ?k6 ?a7 ?l7 ?c7 ?k7 ?a8 ?l8 ?c8 ?k8 ?a9 ?l9 ?c9 ?k9 ?a10 ?l10 ?c10 ?k10 ?a11 ?l11 ?c11 ?k11 ?a12 ?l12 ?c12 ?k12 ?a13 ?l13 ?c13 ?k13 ?a14 ?l14 ?c14 ?k14 ?a15 ?i15 ?l15 ?c15 ?k15 ?a16 ?i16 ?l16 ?c16 ?k16 ?a17 ?i17 ?l17 ?c17 ?k17 ?a18 ?i18 ?l18 ?c18 ?k18 ?a19 ?i19 ?l19 ?c19 ?k19 ?a20 ?i20 ?l20 ?c20 ?k20 ?a21 ?i21 ?l21 ?c21 ?k21 ?a22 ?i22 ?l22 ?c22 ?k22 ?a23 ?i23 ?l23 ?c23 ?k23 ?a24 ?i24 ?l24 ?c24 ?k24 ?a25 ?i25 ?l25 ?c25 ?k25 ?a26 ?i26 ?l26 ?c26 ?k26 ?a27 ?i27 ?l27 ?c27 ?k27 ?a28 ?i28 ?l28 ?c28 ?k28 ?a29 ?i29 ?l29 ?c29 ?k29 ?a30 ?i30 ?l30 ?c30 ?k30 ?a31 ?i31 ?l31 ?c31 ?k31 ?a32 ?i32 ?l32 ?c32 ?k32 ?a33 ?i33 ?l33 ?c33 ?k33 ?a34 ?i34 ?l34 ?c34 ?k34 ?a35 ?l35 ?c35 ?k35 ?a36 ?l36 ?c36 ?k36 ?a37 ?l37 ?c37 ?k37 ?a38 ?l38 ?c38 ?k38 ?a39 ?l39 ?c39 ?k39 ?a40 ?l40 ?c40 ?k40 ?a41 ?l41 ?c41 ?k41 ?a42 ?l42 ?c42 ?k42 ?pg_Source ?hd_Source ?po_Source ?sa_Source ?mk_Source ?kc_Source ?no_Source_stands ?no_Source_changed ?no_Source_many_asks ?no_Source_many_keys ?pg_Keeper ?hd_Keeper ?po_Keeper ?sa_Keeper ?mk_Keeper ?kc_Keeper ?no_Keeper_source ?no_Keeper_room ?no_Keeper_cost ?no_Keeper_heard ?no_Keeper_turn ?no_Keeper_stamps ?no_Keeper_rows ?pg_Summer ?hd_Summer ?po_Summer ?sa_Summer ?mk_Summer ?kc_Summer ?no_Summer_source ?no_Summer_heard ?no_Summer_kept ?no_Summer_many ?aX_NoClock ?xP_NoClock ?kP_NoClock ?bP_NoClock ?tP_NoClock ?iP_NoClock ?sP_NoClock ?z_any ?z_dict ?z_len ?z_list ?z_max ?z_min ?z_range ?z_sorted ?z_sum ?z_tuple ?q_KEYS Lk40.law_true
    (case aC_Source => k_is)
    (case aC_Keeper => k_is)
    (case aC_Summer => k_is)
    (case a0 => k_is)
    (case i0 => k_is)
    (case l0 => k_is)
    (case c0 => k_is)
    (case k0 => k_is)
    (case a1 => k_is)
    (case i1 => k_is)
    (case l1 => k_is)
    (case c1 => k_is)
    (case k1 => k_is)
    (case a2 => k_is)
    (case i2 => k_is)
    (case l2 => k_is)
    (case c2 => k_is)
    (case k2 => k_is)
    (case a3 => k_is)
    (case i3 => k_is)
    (case l3 => k_is)
    (case c3 => k_is)
    (case k3 => k_is)
    (case a4 => k_is)
    (case i4 => k_is)
    (case l4 => k_is)
    (case c4 => k_is)
    (case k4 => k_is)
    (case a5 => k_is)
    (case i5 => k_is)
    (case l5 => k_is)
    (case c5 => k_is)
    (case k5 => k_is)
    (case a6 => k_is)
    (case l6 => k_is)
    (case c6 => k_is)
    (case k6 => k_is)
    (case a7 => k_is)
    (case l7 => k_is)
    (case c7 => k_is)
    (case k7 => k_is)
    (case a8 => k_is)
    (case l8 => k_is)
    (case c8 => k_is)
    (case k8 => k_is)
    (case a9 => k_is)
    (case l9 => k_is)
    (case c9 => k_is)
    (case k9 => k_is)
    (case a10 => k_is)
    (case l10 => k_is)
    (case c10 => k_is)
    (case k10 => k_is)
    (case a11 => k_is)
    (case l11 => k_is)
    (case c11 => k_is)
    (case k11 => k_is)
    (case a12 => k_is)
    (case l12 => k_is)
    (case c12 => k_is)
    (case k12 => k_is)
    (case a13 => k_is)
    (case l13 => k_is)
    (case c13 => k_is)
    (case k13 => k_is)
    (case a14 => k_is)
    (case l14 => k_is)
    (case c14 => k_is)
    (case k14 => k_is)
    (case a15 => k_is)
    (case i15 => k_is)
    (case l15 => k_is)
    (case c15 => k_is)
    (case k15 => k_is)
    (case a16 => k_is)
    (case i16 => k_is)
    (case l16 => k_is)
    (case c16 => k_is)
    (case k16 => k_is)
    (case a17 => k_is)
    (case i17 => k_is)
    (case l17 => k_is)
    (case c17 => k_is)
    (case k17 => k_is)
    (case a18 => k_is)
    (case i18 => k_is)
    (case l18 => k_is)
    (case c18 => k_is)
    (case k18 => k_is)
    (case a19 => k_is)
    (case i19 => k_is)
    (case l19 => k_is)
    (case c19 => k_is)
    (case k19 => k_is)
    (case a20 => k_is)
    (case i20 => k_is)
    (case l20 => k_is)
    (case c20 => k_is)
    (case k20 => k_is)
    (case a21 => k_is)
    (case i21 => k_is)
    (case l21 => k_is)
    (case c21 => k_is)
    (case k21 => k_is)
    (case a22 => k_is)
    (case i22 => k_is)
    (case l22 => k_is)
    (case c22 => k_is)
    (case k22 => k_is)
    (case a23 => k_is)
    (case i23 => k_is)
    (case l23 => k_is)
    (case c23 => k_is)
    (case k23 => k_is)
    (case a24 => k_is)
    (case i24 => k_is)
    (case l24 => k_is)
    (case c24 => k_is)
    (case k24 => k_is)
    (case a25 => k_is)
    (case i25 => k_is)
    (case l25 => k_is)
    (case c25 => k_is)
    (case k25 => k_is)
    (case a26 => k_is)
    (case i26 => k_is)
    (case l26 => k_is)
    (case c26 => k_is)
    (case k26 => k_is)
    (case a27 => k_is)
    (case i27 => k_is)
    (case l27 => k_is)
    (case c27 => k_is)
    (case k27 => k_is)
    (case a28 => k_is)
    (case i28 => k_is)
    (case l28 => k_is)
    (case c28 => k_is)
    (case k28 => k_is)
    (case a29 => k_is)
    (case i29 => k_is)
    (case l29 => k_is)
    (case c29 => k_is)
    (case k29 => k_is)
    (case a30 => k_is)
    (case i30 => k_is)
    (case l30 => k_is)
    (case c30 => k_is)
    (case k30 => k_is)
    (case a31 => k_is)
    (case i31 => k_is)
    (case l31 => k_is)
    (case c31 => k_is)
    (case k31 => k_is)
    (case a32 => k_is)
    (case i32 => k_is)
    (case l32 => k_is)
    (case c32 => k_is)
    (case k32 => k_is)
    (case a33 => k_is)
    (case i33 => k_is)
    (case l33 => k_is)
    (case c33 => k_is)
    (case k33 => k_is)
    (case a34 => k_is)
    (case i34 => k_is)
    (case l34 => k_is)
    (case c34 => k_is)
    (case k34 => k_is)
    (case a35 => k_is)
    (case l35 => k_is)
    (case c35 => k_is)
    (case k35 => k_is)
    (case a36 => k_is)
    (case l36 => k_is)
    (case c36 => k_is)
    (case k36 => k_is)
    (case a37 => k_is)
    (case l37 => k_is)
    (case c37 => k_is)
    (case k37 => k_is)
    (case a38 => k_is)
    (case l38 => k_is)
    (case c38 => k_is)
    (case k38 => k_is)
    (case a39 => k_is)
    (case l39 => k_is)
    (case c39 => k_is)
    (case k39 => k_is)
    (case a40 => k_is)
    (case l40 => k_is)
    (case c40 => k_is)
    (case k40 => k_is)
    (case a41 => k_is)
    (case l41 => k_is)
    (case c41 => k_is)
    (case k41 => k_is)
    (case a42 => k_is)
    (case l42 => k_is)
    (case c42 => k_is)
    (case k42 => k_is)
    (case pg_Source => k_is)
    (case hd_Source => k_is)
    (case po_Source => k_is)
    (case sa_Source => k_is)
    (case mk_Source => k_is)
    (case kc_Source => k_is)
    (case no_Source_stands => k_is)
    (case no_Source_changed => k_is)
    (case no_Source_many_asks => k_is)
    (case no_Source_many_keys => k_is)
    (case pg_Keeper => k_is)
    (case hd_Keeper => k_is)
    (case po_Keeper => k_is)
    (case sa_Keeper => k_is)
    (case mk_Keeper => k_is)
    (case kc_Keeper => k_is)
    (case no_Keeper_source => k_is)
    (case no_Keeper_room => k_is)
    (case no_Keeper_cost => k_is)
    (case no_Keeper_heard => k_is)
    (case no_Keeper_turn => k_is)
    (case no_Keeper_stamps => k_is)
    (case no_Keeper_rows => k_is)
    (case pg_Summer => k_is)
    (case hd_Summer => k_is)
    (case po_Summer => k_is)
    (case sa_Summer => k_is)
    (case mk_Summer => k_is)
    (case kc_Summer => k_is)
    (case no_Summer_source => k_is)
    (case no_Summer_heard => k_is)
    (case no_Summer_kept => k_is)
    (case no_Summer_many => k_is)
    (case aX_NoClock => k_is)
    (case xP_NoClock => k_exc)
    (case kP_NoClock => k_is)
    (case bP_NoClock => k_is)
    (case tP_NoClock => k_is)
    (case iP_NoClock => k_is)
    (case sP_NoClock => k_is)
    (case z_any => k_is)
    (case z_dict => k_is)
    (case z_len => k_is)
    (case z_list => k_is)
    (case z_max => k_is)
    (case z_min => k_is)
    (case z_range => k_is)
    (case z_sorted => k_is)
    (case z_sum => k_is)
    (case z_tuple => k_is)
    (case q_KEYS => k_is)
