import PyProof.Rows.All
import Wide.All
import OpenK.AllK
import Wide.FinOn
import HandS.ForMost
import HandS.ForExc
import HandS.TupAny
import HandS.TupMul
import HandS.Zip
import HandS.Style
import HandS.IsInst
import HandS.Conv
import HandS.Flow
import HandS.Walk
import HandS.Deep
import HandS.SortRule
import HandS.SortInts
import HandS.SetKeys
import HandS.More
import KE.GoesEnum
import KE.KDictZip
import HandS.ListItems
import HandS.SetFor
import HandS.Text
import HandS.StrMore
import HandS.FStr
import HandS.TryOnly
import PySem.Challenge.RW_keptranges_k13_whole_spreads_as_texts
set_option Elab.async false
set_option linter.all false
set_option maxRecDepth 100000
/-! A layer over HandS: values with their tuples inline, an interpretation of a small language, and its rules. -/
namespace DL
open PySem PySem.Spec PyProof.Rows L2

/-! ### values -/
inductive D where
  | non | bl (b : Bool) | int (i : Int) | str (x : Str) | tup (xs : List D) | rol (xs : List D) | fl (xs : List D) | ptp (xs : List D) | rod (ks : List Key) (xs : List D) | ref (a : Addr)
inductive AO where
  | lst (xs : List D) | dk (kvs : List (Key × D)) | dkl (kvs : List (Key × D)) (u : HO) | ins (C : Nat) (fs : List D)
abbrev AH := Addr → Option AO
abbrev DSt := List (Option D)
/-- the link to the text: the classes' addresses, their fields' names, the exceptions' classes, the defs' addresses -/
structure Lk where
  K : PySem.W.Frag
  CA : Nat → Addr
  FN : Nat → List Str
  XV : Nat → Value
  FA : Nat → Addr
  MN : Nat → Str

def up (A : AH) (a : Addr) (o : AO) : AH := fun b => if b = a then some o else A b
theorem up_same {A : AH} {a : Addr} {o : AO} : up A a o a = some o := by unfold up; rw [if_pos rfl]
theorem up_ne {A : AH} {a b : Addr} {o : AO} (h : b ≠ a) : up A a o b = A b := by unfold up; rw [if_neg h]
theorem up_up {A : AH} {a : Addr} {o u : AO} : up (up A a o) a u = up A a u := by
  funext b; unfold up; split <;> rfl
theorem up_id {A : AH} {a : Addr} {o : AO} (h : A a = some o) : up A a o = A := by
  funext b; unfold up; split
  · next e => rw [e, h]
  · rfl
theorem up_comm {A : AH} {a b : Addr} {o u : AO} (h : a ≠ b) : up (up A a o) b u = up (up A b u) a o := by
  funext c; unfold up
  by_cases h1 : c = a
  · subst h1; simp [h]
  · by_cases h2 : c = b
    · subst h2; simp [h1]
    · simp [h1, h2]
theorem ne_up {A : AH} {a b : Addr} {o : AO} (h : A a = some o) (h' : A b = none) : a ≠ b := by
  intro e; subst e; rw [h] at h'; cases h'
/-- less is known -/
def Sub (A B : AH) : Prop := ∀ a o, A a = some o → B a = some o
theorem Sub.refl (A : AH) : Sub A A := fun _ _ h => h
theorem Sub.trans {A B C : AH} (h : Sub A B) (k : Sub B C) : Sub A C := fun a o e => k a o (h a o e)
theorem Sub.up {A B : AH} (h : Sub A B) {p : Addr} {o : AO} (n : A p = none) : Sub A (up B p o) := fun a u e => by
  rw [up_ne (ne_up e n)]; exact h a u e
theorem Sub.upup {A B : AH} (h : Sub A B) {p : Addr} {o : AO} : Sub (DL.up A p o) (DL.up B p o) := fun a u e => by
  unfold DL.up at *; split at e
  · next z => rw [if_pos z]; exact e
  · next z => rw [if_neg z]; exact h a u e
theorem Sub.new {A : AH} {p : Addr} {o : AO} (n : A p = none) : Sub A (DL.up A p o) := (Sub.refl A).up n
theorem Sub.non {A B : AH} (h : Sub A B) {p : Addr} (n : B p = none) : A p = none := by
  cases e : A p with
  | none => rfl
  | some o => rw [h p o e] at n; cases n

/-! ### what stands for what -/
/-- a list, a dict that nothing of A can change: locked, or no longer told by A; N are the addresses that are kept back -/
def RdL (A : AH) (N : Addr → Prop) (H : Hp) (a : Addr) (xs : List V) : Prop := Rd H a (.lst xs) ∧ A a = none ∧ ¬ N a
def RdD (A : AH) (N : Addr → Prop) (H : Hp) (a : Addr) (ws : List (Key × V)) : Prop := Rd H a (.dK ws) ∧ A a = none ∧ ¬ N a
def SqR (K : PySem.W.Frag) (A : AH) (N : Addr → Prop) (H : Hp) (a : Addr) (xs : List V) : Prop :=
  RdL A N H a xs ∨
    ∃ (o : Obj) (its : Array Value) (n : Nat), K.lookup a = some o ∧ o.cls = .type "list" ∧ o.dict = none ∧ o.data = .seq its n ∧ its.size ≤ sizeLine ∧ Vals xs its.toList
theorem SqR.seq {K : PySem.W.Frag} {A : AH} {N : Addr → Prop} {H : Hp} {a : Addr} {xs : List V} (h : SqR K A N H a xs) : SqL K H a xs := by
  rcases h with h | h
  · exact .inl h.1
  · exact .inr h
mutual
def RV (K : PySem.W.Frag) (A : AH) (N : Addr → Prop) (H : Hp) : D → V → Prop
  | .non, v => v = .non
  | .bl b, v => v = .bl b
  | .int i, v => v = .int i
  | .str x, v => v = .str x
  | .ref a, v => v = .ref a
  | .tup ds, v => ∃ a vs, v = .ref a ∧ SqT K H a vs ∧ RVs K A N H ds vs
  | .rol ds, v => ∃ a vs, v = .ref a ∧ SqR K A N H a vs ∧ RVs K A N H ds vs
  | .fl ds, v => ∃ a vs, v = .ref a ∧ RdL A N H a vs ∧ RVs K A N H ds vs
  | .ptp ds, v => ∃ a o vs, v = .ref a ∧ H a = some (.frz o (.tup vs)) ∧ o.dict = none ∧ RVs K A N H ds vs
  | .rod ks ds, v => ∃ a ws, v = .ref a ∧ RdD A N H a ws ∧ ks = ws.map (·.1) ∧ RVs K A N H ds (ws.map (·.2))
def RVs (K : PySem.W.Frag) (A : AH) (N : Addr → Prop) (H : Hp) : List D → List V → Prop
  | [], vs => vs = []
  | d :: ds, vs => ∃ v r, vs = v :: r ∧ RV K A N H d v ∧ RVs K A N H ds r
end
def RKs (K : PySem.W.Frag) (A : AH) (N : Addr → Prop) (H : Hp) (kvs : List (Key × D)) (ws : List (Key × V)) : Prop := kvs.map (·.1) = ws.map (·.1) ∧ RVs K A N H (kvs.map (·.2)) (ws.map (·.2))
def RO (L : Lk) (A : AH) (N : Addr → Prop) (H : Hp) (a : Addr) : AO → Prop
  | .lst ds => ∃ vs, H a = some (.lst vs) ∧ RVs L.K A N H ds vs
  | .dk kvs => ∃ ws, H a = some (.dK ws) ∧ RKs L.K A N H kvs ws
  | .dkl kvs u => H a = some u ∧ ∃ o ws, u = .frz o (.dK ws) ∧ RKs L.K A N H kvs ws
  | .ins C fs => ∃ dx vs, H a = some (.ins (L.CA C) dx ((L.FN C).zip vs)) ∧ RVs L.K A N H fs vs ∧ fs.length ≤ (L.FN C).length
structure RA (L : Lk) (A : AH) (N : Addr → Prop) (H : Hp) : Prop where
  at' : ∀ a o, A a = some o → RO L A N H a o
  hid : ∀ a, N a → A a = none ∧ ∃ o, H a = some o
instance {L : Lk} {A : AH} {N : Addr → Prop} {H : Hp} : CoeFun (RA L A N H) (fun _ => ∀ a o, A a = some o → RO L A N H a o) := ⟨fun r => r.at'⟩
/-- what A did not tell stays, and is not told -/
def Ext (A : AH) (H : Hp) (A' : AH) (H' : Hp) : Prop := ∀ b o, H b = some o → A b = none → H' b = some o ∧ A' b = none
def RS (K : PySem.W.Frag) (A : AH) (N : Addr → Prop) (H : Hp) (δ : DSt) (σ : L2.St) : Prop := σ.length = δ.length ∧ ∀ (i : Nat) (d : D), δ[i]? = some (some d) → ∃ v, σ[i]? = some (some v) ∧ RV K A N H d v

section
variable {L : Lk} {K : PySem.W.Frag} {A A1 A' : AH} {N N' : Addr → Prop} {H H1 H' : Hp} {a b : Addr} {o : AO} {d : D} {v : V} {ds es : List D} {vs ws : List V}
theorem RVs.nil : RVs K A N H [] [] := by unfold RVs; rfl
theorem RVs.cons (h : RV K A N H d v) (t : RVs K A N H ds vs) : RVs K A N H (d :: ds) (v :: vs) := by unfold RVs; exact ⟨v, vs, rfl, h, t⟩
theorem RVs.cons' (h : RVs K A N H (d :: ds) vs) : ∃ v r, vs = v :: r ∧ RV K A N H d v ∧ RVs K A N H ds r := by unfold RVs at h; exact h
theorem RVs.nil' (h : RVs K A N H [] vs) : vs = [] := by unfold RVs at h; exact h
theorem RVs.length : ∀ {ds : List D} {vs : List V}, RVs K A N H ds vs → ds.length = vs.length
  | [], _, h => by rw [h.nil']; rfl
  | d :: ds, _, h => by
    obtain ⟨v, r, rfl, _, t⟩ := h.cons'
    rw [List.length_cons, List.length_cons, RVs.length t]
theorem RVs.append : ∀ {ds es : List D} {vs ws : List V}, RVs K A N H ds vs → RVs K A N H es ws → RVs K A N H (ds ++ es) (vs ++ ws)
  | [], _, _, _, h, k => by rw [h.nil']; exact k
  | d :: ds, _, _, _, h, k => by
    obtain ⟨v, r, rfl, h1, t⟩ := h.cons'
    exact .cons h1 (RVs.append t k)
theorem RVs.take : ∀ (n : Nat) {ds : List D} {vs : List V}, RVs K A N H ds vs → RVs K A N H (ds.take n) (vs.take n)
  | 0, _, _, _ => .nil
  | n + 1, [], _, h => by rw [h.nil']; exact .nil
  | n + 1, d :: ds, _, h => by
    obtain ⟨v, r, rfl, h1, t⟩ := h.cons'
    exact .cons h1 (RVs.take n t)
theorem RVs.drop : ∀ (n : Nat) {ds : List D} {vs : List V}, RVs K A N H ds vs → RVs K A N H (ds.drop n) (vs.drop n)
  | 0, _, _, h => h
  | n + 1, [], _, h => by rw [h.nil']; exact .nil
  | n + 1, d :: ds, _, h => by
    obtain ⟨v, r, rfl, h1, t⟩ := h.cons'
    exact RVs.drop n t
theorem RVs.set (h1 : RV K A N H d v) : ∀ (n : Nat) {ds : List D} {vs : List V}, RVs K A N H ds vs → RVs K A N H (ds.set n d) (vs.set n v)
  | _, [], _, h => by rw [h.nil']; exact .nil
  | 0, d' :: ds, _, h => by
    obtain ⟨v', r, rfl, h2, t⟩ := h.cons'
    exact .cons h1 t
  | n + 1, d' :: ds, _, h => by
    obtain ⟨v', r, rfl, h2, t⟩ := h.cons'
    exact .cons h2 (RVs.set h1 n t)
theorem RVs.eraseIdx : ∀ (n : Nat) {ds : List D} {vs : List V}, RVs K A N H ds vs → RVs K A N H (ds.eraseIdx n) (vs.eraseIdx n)
  | _, [], _, h => by rw [h.nil']; exact .nil
  | 0, d' :: ds, _, h => by
    obtain ⟨v', r, rfl, h2, t⟩ := h.cons'
    exact t
  | n + 1, d' :: ds, _, h => by
    obtain ⟨v', r, rfl, h2, t⟩ := h.cons'
    exact .cons h2 (RVs.eraseIdx n t)
theorem RVs.get : ∀ {ds : List D} {vs : List V} {i : Nat} {d : D}, RVs K A N H ds vs → ds[i]? = some d → ∃ v, vs[i]? = some v ∧ RV K A N H d v
  | [], _, _, _, _, e => by simp at e
  | d' :: ds, _, 0, d, h, e => by
    obtain ⟨v', r, rfl, h2, t⟩ := h.cons'
    simp at e; subst e; exact ⟨v', rfl, h2⟩
  | d' :: ds, _, i + 1, d, h, e => by
    obtain ⟨v', r, rfl, h2, t⟩ := h.cons'
    obtain ⟨v, e1, e2⟩ := RVs.get (i := i) t (by simpa using e)
    exact ⟨v, by simpa using e1, e2⟩
theorem RVs.gets : ∀ {ds : List D} {vs : List V} {i : Nat} {v : V}, RVs K A N H ds vs → vs[i]? = some v → ∃ d, ds[i]? = some d ∧ RV K A N H d v := fun {ds vs i v} h e => by
  have hl := h.length
  have hi : i < ds.length := by
    have := (List.getElem?_eq_some_iff.mp e).1
    omega
  obtain ⟨v', e1, e2⟩ := h.get (List.getElem?_eq_getElem hi)
  rw [e] at e1; cases e1
  exact ⟨_, List.getElem?_eq_getElem hi, e2⟩
theorem RVs.reverse : ∀ {ds : List D} {vs : List V}, RVs K A N H ds vs → RVs K A N H ds.reverse vs.reverse
  | [], _, h => by rw [h.nil']; exact .nil
  | d :: ds, _, h => by
    obtain ⟨v, r, rfl, h1, t⟩ := h.cons'
    rw [List.reverse_cons, List.reverse_cons]
    exact (RVs.reverse t).append (.cons h1 .nil)
theorem RVs.flatten (h : RVs K A N H ds vs) : ∀ n : Nat, RVs K A N H (List.replicate n ds).flatten (List.replicate n vs).flatten
  | 0 => .nil
  | n + 1 => by
    rw [List.replicate_succ, List.replicate_succ, List.flatten_cons, List.flatten_cons]
    exact h.append (RVs.flatten h n)
theorem RVs.snoc (h : RVs K A N H ds vs) (h1 : RV K A N H d v) : RVs K A N H (ds ++ [d]) (vs ++ [v]) := h.append (.cons h1 .nil)
theorem RVs.ints : ∀ {ns : List Int} {vs : List V}, RVs K A N H (ns.map D.int) vs → vs = ns.map V.int
  | [], _, h => h.nil'
  | n :: ns, _, h => by
    obtain ⟨v, r, rfl, h1, t⟩ := RVs.cons' h
    unfold RV at h1
    rw [h1, RVs.ints t]; rfl
theorem RVs.of_ints : ∀ (ns : List Int), RVs K A N H (ns.map D.int) (ns.map V.int)
  | [] => .nil
  | n :: ns => .cons (by unfold RV; rfl) (RVs.of_ints ns)
theorem RVs.bls : ∀ {ns : List Bool} {vs : List V}, RVs K A N H (ns.map D.bl) vs → vs = ns.map V.bl
  | [], _, h => h.nil'
  | n :: ns, _, h => by
    obtain ⟨v, r, rfl, h1, t⟩ := RVs.cons' h
    unfold RV at h1
    rw [h1, RVs.bls t]; rfl
theorem RVs.strs : ∀ {ns : List Str} {vs : List V}, RVs K A N H (ns.map D.str) vs → vs = ns.map V.str
  | [], _, h => h.nil'
  | n :: ns, _, h => by
    obtain ⟨v, r, rfl, h1, t⟩ := RVs.cons' h
    unfold RV at h1
    rw [h1, RVs.strs t]; rfl
/-- what stays -/
def TupH (w : HO) : Prop := (∃ xs, w = .tup xs) ∨ ∃ o xs, w = .frz o (.tup xs)
def Stay (A : AH) (N : Addr → Prop) (H : Hp) (A' : AH) (N' : Addr → Prop) (H' : Hp) : Prop := (∀ b w, TupH w → H b = some w → H' b = some w) ∧ (∀ b xs, RdL A N H b xs → RdL A' N' H' b xs) ∧ ∀ b ws, RdD A N H b ws → RdD A' N' H' b ws
theorem Stay.refl : Stay A N H A N H := ⟨fun _ _ _ h => h, fun _ _ h => h, fun _ _ h => h⟩
theorem SqT.stay (s : Stay A N H A' N' H') (h : SqT K H a vs) : SqT K H' a vs := by
  rcases h with h | h
  · rcases h with h | ⟨o, h⟩
    · exact .inl (.inl (s.1 _ _ (.inl ⟨_, rfl⟩) h))
    · exact .inl (.inr ⟨o, s.1 _ _ (.inr ⟨_, _, rfl⟩) h⟩)
  · exact .inr h
theorem SqR.stay (s : Stay A N H A' N' H') (h : SqR K A N H a vs) : SqR K A' N' H' a vs := by
  rcases h with h | h
  · exact .inl (s.2.1 _ _ h)
  · exact .inr h
mutual
theorem RV.stay (s : Stay A N H A' N' H') : ∀ (d : D) (v : V), RV K A N H d v → RV K A' N' H' d v
  | .non, v, h => by unfold RV at *; exact h
  | .bl b, v, h => by unfold RV at *; exact h
  | .int i, v, h => by unfold RV at *; exact h
  | .str x, v, h => by unfold RV at *; exact h
  | .ref a, v, h => by unfold RV at *; exact h
  | .tup ds, v, h => by
    unfold RV at *
    obtain ⟨a, vs, e, h1, h2⟩ := h
    exact ⟨a, vs, e, DL.SqT.stay s h1, RVs.stay s ds vs h2⟩
  | .rol ds, v, h => by
    unfold RV at *
    obtain ⟨a, vs, e, h1, h2⟩ := h
    exact ⟨a, vs, e, DL.SqR.stay s h1, RVs.stay s ds vs h2⟩
  | .fl ds, v, h => by
    unfold RV at *
    obtain ⟨a, vs, e, h1, h2⟩ := h
    exact ⟨a, vs, e, s.2.1 _ _ h1, RVs.stay s ds vs h2⟩
  | .ptp ds, v, h => by
    unfold RV at *
    obtain ⟨a, o, vs, e, h1, h2, h3⟩ := h
    exact ⟨a, o, vs, e, s.1 _ _ (.inr ⟨_, _, rfl⟩) h1, h2, RVs.stay s ds vs h3⟩
  | .rod ks ds, v, h => by
    unfold RV at *
    obtain ⟨a, ws, e, h1, h2, h3⟩ := h
    exact ⟨a, ws, e, s.2.2 _ _ h1, h2, RVs.stay s ds _ h3⟩
theorem RVs.stay (s : Stay A N H A' N' H') : ∀ (ds : List D) (vs : List V), RVs K A N H ds vs → RVs K A' N' H' ds vs
  | [], vs, h => by unfold RVs at *; exact h
  | d :: ds, vs, h => by
    unfold RVs at *
    obtain ⟨v, r, e, h1, h2⟩ := h
    exact ⟨v, r, e, RV.stay s d v h1, RVs.stay s ds r h2⟩
end
theorem RKs.stay {kvs : List (Key × D)} {ks : List (Key × V)} (s : Stay A N H A' N' H') (h : RKs K A N H kvs ks) : RKs K A' N' H' kvs ks := ⟨h.1, RVs.stay s _ _ h.2⟩
theorem RO.has (h : RO L A N H a o) : ∃ u, H a = some u ∧ (∀ xs, u ≠ .tup xs) ∧ ∀ ob xs, u ≠ .frz ob (.tup xs) := by
  cases o with
  | lst ds => obtain ⟨vs, e, _⟩ := h; exact ⟨_, e, (by intro _ z; cases z), (by intro _ _ z; cases z)⟩
  | dk kvs => obtain ⟨vs, e, _⟩ := h; exact ⟨_, e, (by intro _ z; cases z), (by intro _ _ z; cases z)⟩
  | dkl kvs u => obtain ⟨e, o, vs, rfl, _⟩ := h; exact ⟨_, e, (by intro _ z; cases z), (by intro _ _ z; cases z)⟩
  | ins C fs => obtain ⟨dx, vs, e, _⟩ := h; exact ⟨_, e, (by intro _ z; cases z), (by intro _ _ z; cases z)⟩
theorem RA.non (r : RA L A N H) (h : H a = none) : A a = none := by
  cases e : A a with
  | none => rfl
  | some o => obtain ⟨u, e1, _⟩ := RO.has (r a o e); rw [h] at e1; cases e1
theorem RA.tup (r : RA L A N H) (h : Rd H a (.tup vs)) : A a = none := by
  cases e : A a with
  | none => rfl
  | some o =>
    obtain ⟨u, e1, e2, e3⟩ := RO.has (r a o e)
    rcases h with h | ⟨ob, h⟩
    · rw [h] at e1; cases e1; exact absurd rfl (e2 _)
    · rw [h] at e1; cases e1; exact absurd rfl (e3 _ _)
theorem RA.tup' (r : RA L A N H) {w : HO} (t : TupH w) (h : H a = some w) : A a = none := by
  rcases t with ⟨xs, rfl⟩ | ⟨o, xs, rfl⟩
  · exact r.tup (.inl h)
  · exact r.tup (.inr ⟨o, h⟩)
theorem Ext.rd {u : HO} (x : Ext A H A' H') (h : Rd H b u) (n : A b = none) : Rd H' b u ∧ A' b = none := by
  rcases h with h | ⟨o, h⟩
  · obtain ⟨h1, h2⟩ := x b _ h n; exact ⟨.inl h1, h2⟩
  · obtain ⟨h1, h2⟩ := x b _ h n; exact ⟨.inr ⟨o, h1⟩, h2⟩
theorem Ext.stay (x : Ext A H A' H') (r : RA L A N H) : Stay A N H A' N H' :=
  ⟨fun b w t h => (x b w h (r.tup' t h)).1, fun b xs h => let q := x.rd h.1 h.2.1; ⟨q.1, q.2, h.2.2⟩, fun b xs h => let q := x.rd h.1 h.2.1; ⟨q.1, q.2, h.2.2⟩⟩
theorem Ext.refl (A : AH) (H : Hp) : Ext A H A H := fun _ _ h k => ⟨h, k⟩
theorem Ext.trans (x : Ext A H A1 H1) (y : Ext A1 H1 A' H') : Ext A H A' H' := fun b o h k => let ⟨h1, k1⟩ := x b o h k; y b o h1 k1
theorem Ext.sub (x : Ext A H A1 H1) (s : Sub A' A1) : Ext A H A' H1 := fun b o h k => let ⟨h1, k1⟩ := x b o h k; ⟨h1, s.non k1⟩
/-- what is forgotten -/
theorem Stay.sub (s : Sub A' A) : Stay A N H A' N H := ⟨fun _ _ _ h => h, fun b xs h => ⟨h.1, s.non h.2.1, h.2.2⟩, fun b xs h => ⟨h.1, s.non h.2.1, h.2.2⟩⟩
theorem RO.stay (s : Stay A N H A' N' H') (e : ∀ u, H a = some u → H' a = some u) (h : RO L A N H a o) : RO L A' N' H' a o := by
  cases o with
  | lst ds => obtain ⟨vs, q, r⟩ := h; exact ⟨vs, e _ q, RVs.stay s _ _ r⟩
  | dk kvs => obtain ⟨vs, q, r⟩ := h; exact ⟨vs, e _ q, r.stay s⟩
  | dkl kvs u => obtain ⟨q, o, vs, q2, r⟩ := h; exact ⟨e _ q, o, vs, q2, r.stay s⟩
  | ins C fs => obtain ⟨dx, vs, q, r, z⟩ := h; exact ⟨dx, vs, e _ q, RVs.stay s _ _ r, z⟩
theorem RA.sub (r : RA L A N H) (s : Sub A' A) : RA L A' N H := ⟨fun a o e => RO.stay (.sub s) (fun _ q => q) (r a o (s a o e)), fun a h => ⟨s.non (r.hid a h).1, (r.hid a h).2⟩⟩
theorem RA.nn (r : RA L A N H) (e : A a = some o) : ¬ N a := fun h => by rw [(r.hid a h).1] at e; cases e
theorem RS.stay {δ : DSt} {σ : L2.St} (s : Stay A N H A' N' H') (r : RS K A N H δ σ) : RS K A' N' H' δ σ := ⟨r.1, fun i d e => let ⟨v, e1, e2⟩ := r.2 i d e; ⟨v, e1, RV.stay s d v e2⟩⟩
/-- a new object, tracked by both -/
theorem Ext.new {u : HO} (r : RA L A N H) (n : H a = none) : Ext A H (up A a o) (upd H a u) := fun b w h k => by
  have z : b ≠ a := ne_of_none h n
  rw [upd_ne z, up_ne z]; exact ⟨h, k⟩
theorem Ext.tupNew {u : HO} (r : RA L A N H) (n : H a = none) : Ext A H A (upd H a u) := fun b w h k => by
  have z : b ≠ a := ne_of_none h n
  rw [upd_ne z]; exact ⟨h, k⟩
theorem RA.new {u : HO} (r : RA L A N H) (n : H a = none) (h : RO L (up A a o) N (upd H a u) a o) : RA L (up A a o) N (upd H a u) := ⟨fun b w e => by
  by_cases z : b = a
  · subst z; rw [up_same] at e; cases e; exact h
  · rw [up_ne z] at e
    exact RO.stay ((Ext.new r n).stay r) (fun x q => by rw [upd_ne z]; exact q) (r b w e), fun b hb => by
  obtain ⟨h1, w, h2⟩ := r.hid b hb
  have z : b ≠ a := fun z => by subst z; rw [n] at h2; cases h2
  rw [up_ne z, upd_ne z]; exact ⟨h1, w, h2⟩⟩
/-- a new thing that A does not tell -/
theorem RA.tupNew {u : HO} (r : RA L A N H) (n : H a = none) : RA L A N (upd H a u) := ⟨fun b w e => by
  have z : b ≠ a := fun z => by subst z; rw [r.non n] at e; cases e
  exact RO.stay ((Ext.tupNew r n).stay r) (fun x q => by rw [upd_ne z]; exact q) (r b w e), fun b hb => by
  obtain ⟨h1, w, h2⟩ := r.hid b hb
  have z : b ≠ a := fun z => by subst z; rw [n] at h2; cases h2
  rw [upd_ne z]; exact ⟨h1, w, h2⟩⟩
/-- a write -/
theorem Ext.put {u : HO} (e : A a = some o) {o' : AO} : Ext A H (up A a o') (upd H a u) := fun b w h k => by
  have z : b ≠ a := fun z => by subst z; rw [e] at k; cases k
  rw [upd_ne z, up_ne z]; exact ⟨h, k⟩
theorem RA.put {u : HO} (r : RA L A N H) (e : A a = some o) {o' : AO} (h : RO L (up A a o') N (upd H a u) a o') : RA L (up A a o') N (upd H a u) := ⟨fun b w q => by
  by_cases z : b = a
  · subst z; rw [up_same] at q; cases q; exact h
  · rw [up_ne z] at q
    exact RO.stay ((Ext.put e).stay r) (fun x q => by rw [upd_ne z]; exact q) (r b w q), fun b hb => by
  obtain ⟨h1, w, h2⟩ := r.hid b hb
  have z : b ≠ a := fun z => by subst z; rw [e] at h1; cases h1
  rw [up_ne z, upd_ne z]; exact ⟨h1, w, h2⟩⟩
/-- forgotten: A without a -/
def del (A : AH) (a : Addr) : AH := fun b => if b = a then none else A b
theorem del_same : del A a a = none := by unfold del; rw [if_pos rfl]
theorem del_ne (h : b ≠ a) : del A a b = A b := by unfold del; rw [if_neg h]
theorem del_up (n : A a = none) : del (up A a o) a = A := by
  funext b; unfold del up; split
  · next z => rw [z, n]
  · rfl
theorem Sub.del : Sub (del A a) A := fun b o e => by
  unfold DL.del at e; split at e
  · cases e
  · exact e
/-- what was told is told no more: a list, a dict that no one changes now -/
theorem fl_of (e : A a = some (.lst ds)) (r : RA L A N H) : RV L.K (del A a) N H (.fl ds) (.ref a) := by
  obtain ⟨vs, h1, h2⟩ := r a _ e
  unfold RV
  exact ⟨a, vs, rfl, ⟨.inl h1, del_same, r.nn e⟩, RVs.stay (.sub .del) _ _ h2⟩
theorem rod_of {kvs : List (Key × D)} (e : A a = some (.dk kvs)) (r : RA L A N H) : RV L.K (del A a) N H (.rod (kvs.map (·.1)) (kvs.map (·.2))) (.ref a) := by
  obtain ⟨ws, h1, h2, h3⟩ := r a _ e
  unfold RV
  exact ⟨a, ws, rfl, ⟨.inl h1, del_same, r.nn e⟩, h2, RVs.stay (.sub .del) _ _ h3⟩
end
end DL

set_option Elab.async false
set_option linter.all false
set_option maxRecDepth 100000
/-! the small language and what it means -/
namespace DL
open PySem PySem.Spec PyProof.Rows L2

inductive BO where | add | sub | mul | fdiv | mod
inductive CO where | eq | ne | lt | le | gt | ge | inn | nin | kin | nkin | din | ndin | sin | nsin
inductive BI where | len | sum | all | any | tuple | list | sorted | int1 | str1 | min1 | max1 | min2 | max2 | ssort | sitems | sort3 | sortd | lend | tupd | listd | dict | dictp | dictt | repr | ints | smul
inductive TyK where | int | bool | tuple | list | str
inductive BM where | append | extend | pop | popi | get | dpop | items | join | split | strip | setdefault
inductive Ty3 where | list | dict | str
inductive SrcK where | seq | rng | zip | enum | ezip | keys | rng3 | sgn | zipm
inductive Tg where | nm (i : Nat) | tp (ts : List Tg)
mutual
inductive IE where
  | var (i : Nat) | cst (d : D) | tup (es : List IE) | lst (es : List IE)
  | bin (o : BO) (a b : IE) | neg (a : IE)
  | cmp (o : CO) (a b : IE) | chn (o p : CO) (a b c : IE) | ch3 (o p q : CO) (a b c d : IE)
  | isn (neg : Bool) (a : IE) | isb (neg : Bool) (a b : IE)
  | notv (a : IE) | andv (a b : IE) | orv (a b : IE) | ite (t : IT) (a b : IE)
  | call (f : Nat) (es : List IE) | make (C : Nat) (es : List IE) | meth (m : Nat) (o : IE) (es : List IE) | fld (C i : Nat) (o : IE)
  | bi (b : BI) (es : List IE) | isi (k : TyK) (a : IE) | rgl (t : Bool) (es : List IE)
  | ix (a i : IE) | cut (a : IE) (lo hi : Option IE) | rev (a : IE)
  | comp (k : SrcK) (es : List IE) (vs : List Nat) (tg : Tg) (t : IT) (e : IE)
  | bm (m : BM) (o : IE) (es : List IE) | dic (es : List IE) | fstr (es : List IE) | fz (e : IE) | lk (e : IE) | step (a : IE) (k : Nat) | wk (e : IE) | ptl (e : IE) | ptd (es : List IE) | isx (x : Nat) (a : IE)
  | compx (k : SrcK) (es : List IE) (vs : List Nat) (tg : Tg) (t : IT) (e : IE)
inductive IT where
  | val (e : IE) | and (a b : IT) | or (a b : IT) | not (a : IT) | yes
end
inductive IS where
  | set (i : Nat) (e : IE) | tset (tg : Tg) (e : IE) | par (is : List Nat) (es : List IE)
  | sub (o i e : IE) | put (C k : Nat) (o e : IE) | expr (e : IE) | iff (t : IT) (a b : List IS)
  | for (k : SrcK) (es : List IE) (tg : Tg) (body : List IS) | whil (t : IT) (body : List IS)
  | ret (e : IE) | pass | cont | rais (x : Nat) | tryx (body : List IS) (xs : List Nat) (suite : List IS) | lks (s : IS) | sub2 (o i o2 i2 e : IE)

abbrev QE := D → AH → Prop
abbrev XQ := Nat → AH → Prop
abbrev XP := Nat → DSt → AH → Prop
abbrev WE := DSt → AH → QE → XQ → Prop
abbrev WT := DSt → AH → (Bool → AH → Prop) → XQ → Prop
abbrev WA := DSt → AH → (List D → AH → Prop) → XQ → Prop
/-- what a call of a def comes to -/
abbrev CallT := Nat → List D → AH → QE → XQ → Prop
/-- the table of defs and classes -/
structure FnD where
  np : Nat
  ns : Nat
  body : List IS
structure ClD where
  nf : Nat
  init : Nat
  ms : List (Nat × Nat)
structure Gm where
  fn : Nat → Option FnD
  cl : Nat → Option ClD

/-! ### operations on values -/
def seqD (A : AH) : D → Option (List D)
  | .tup xs => some xs
  | .ptp xs => some xs
  | .rol xs => some xs
  | .fl xs => some xs
  | .ref a => match A a with | some (.lst xs) => some xs | _ => none
  | _ => none
def lstD (A : AH) : D → Option (List D)
  | .rol xs => some xs
  | .fl xs => some xs
  | .ref a => match A a with | some (.lst xs) => some xs | _ => none
  | _ => none
/-- a list that may be added to another one -/
def flD (A : AH) : D → Option (List D)
  | .fl xs => some xs
  | .ref a => match A a with | some (.lst xs) => some xs | _ => none
  | _ => none
def keyD : D → Option Key | .int i => some (.inl i) | .str x => some (.inr x) | _ => none
def ofKey : Key → D | .inl i => .int i | .inr x => .str x
/-- a dict as data -/
def dicD (A : AH) : D → Option (List (Key × D))
  | .rod ks xs => some (ks.zip xs)
  | .ref a => match A a with | some (.dk kvs) => some kvs | some (.dkl kvs _) => some kvs | _ => none
  | _ => none
def valD (kvs : List (Key × D)) (k : Key) : Option D := (kvs.find? fun kv => decide (kv.1 = k)).map (·.2)
def putD (kvs : List (Key × D)) (k : Key) (v : D) : List (Key × D) :=
  if (kvs.any fun kv => decide (kv.1 = k)) = true then kvs.map (fun kv => if kv.1 = k then (kv.1, v) else kv) else kvs ++ [(k, v)]
def dropD (kvs : List (Key × D)) (k : Key) : List (Key × D) := kvs.filter fun kv => decide (kv.1 ≠ k)
def mergeD (kvs more : List (Key × D)) : List (Key × D) := more.foldl (fun acc kv => putD acc kv.1 kv.2) kvs
def kv1 : D → Option (Key × D) | .tup [k, v] => (keyD k).map fun k => (k, v) | _ => none
def kvs2 : List D → Option (List (Key × D))
  | [] => some []
  | k :: v :: r => match keyD k, kvs2 r with | some k, some r => some ((k, v) :: r) | _, _ => none
  | _ => none
def tri1 : D → Option (Int × Int × Int) | .tup [.int i, .int j, .int k] => some (i, j, k) | _ => none
def kint1 : Key → Option Int | .inl i => some i | .inr _ => none
def int1 : D → Option Int | .int i => some i | _ => none
def bl1 : D → Option Bool | .bl i => some i | _ => none
def str1 : D → Option Str | .str i => some i | _ => none
def pr1 : D → Option (Int × Int) | .tup [.int i, .int j] => some (i, j) | _ => none
def alls {α : Type} (f : D → Option α) : List D → Option (List α)
  | [] => some []
  | d :: ds => match f d, alls f ds with | some x, some xs => some (x :: xs) | _, _ => none
def pds (f : D → Option PyData) : List D → Option (List PyData)
  | [] => some []
  | d :: ds => match f d, pds f ds with | some x, some xs => some (x :: xs) | _, _ => none
/-- a value as plain data -/
def pd (A : AH) : Nat → D → Option PyData
  | _, .non => some .none
  | _, .bl b => some (.bool b)
  | _, .int i => some (.int i)
  | _, .str x => if PyData.strOk x = true then some (.str x) else none
  | 0, .tup _ => none
  | 0, .rol _ => none
  | 0, .fl _ => none
  | 0, .ref _ => none
  | _, .rod _ _ => none
  | _, .ptp _ => none
  | n + 1, .tup ds => (pds (pd A n) ds).map .tuple
  | n + 1, .rol ds => (pds (pd A n) ds).map .list
  | n + 1, .fl ds => (pds (pd A n) ds).map .list
  | n + 1, .ref a => match A a with | some (.lst ds) => (pds (pd A n) ds).map .list | _ => none
def leP (p q : Int × Int) : Bool := decide (p.1 < q.1 ∨ (p.1 = q.1 ∧ p.2 ≤ q.2))
def sortP (l : List (Int × Int)) : List (Int × Int) := l.mergeSort leP
def leT (p q : Int × Int × Int) : Bool := decide (p.1 < q.1 ∨ (p.1 = q.1 ∧ (p.2.1 < q.2.1 ∨ (p.2.1 = q.2.1 ∧ p.2.2 ≤ q.2.2))))
def sortT (l : List (Int × Int × Int)) : List (Int × Int × Int) := l.mergeSort leT
def triD (p : Int × Int × Int) : D := .tup [.int p.1, .int p.2.1, .int p.2.2]
def sortI (l : List Int) : List Int := l.mergeSort fun a b => decide (a ≤ b)
def prD (p : Int × Int) : D := .tup [.int p.1, .int p.2]
def isNonD : D → Bool | .non => true | _ => false
def flatD : D → Bool
  | .non => true | .bl _ => true | .int _ => true | .str _ => true | _ => false
def flV : D → V
  | .non => .non | .bl b => .bl b | .int i => .int i | .str x => .str x | _ => .non
def cutL {α : Type} (xs : List α) (lo hi : Option Int) : List α := (xs.drop (HT.sIx xs.length 0 lo)).take (HT.sIx xs.length xs.length hi - HT.sIx xs.length 0 lo)

def newD (A : AH) (kvs : List (Key × D)) (Q : QE) : Prop := ∀ p, A p = none → Q (.ref p) (up A p (.dk kvs))
/-- told no more -/
def dFz (x : D) (A : AH) (Q : QE) : Prop := match x with
  | .ref a => match A a with
    | some (.lst xs) => Q (.fl xs) (del A a)
    | some (.dk kvs) => Q (.rod (kvs.map (·.1)) (kvs.map (·.2))) (del A a)
    | _ => Q (.ref a) A
  | x => Q x A
def newL (A : AH) (xs : List D) (Q : QE) : Prop := ∀ p, A p = none → Q (.ref p) (up A p (.lst xs))
def dBin (o : BO) (x y : D) (A : AH) (Q : QE) : Prop := match o, x, y with
  | .add, .int i, .int j => Q (.int (i + j)) A
  | .add, .tup xs, .tup ys => xs.length + ys.length ≤ sizeLine ∧ Q (.tup (xs ++ ys)) A
  | .add, .ref a, .ref b => match A a, A b with
    | some (.lst xs), some (.lst ys) => xs.length + ys.length ≤ sizeLine ∧ newL A (xs ++ ys) Q
    | _, _ => False
  | .add, .str s, .str t => s.length + t.length ≤ sizeLine ∧ Q (.str (s ++ t)) A
  | .sub, .int i, .int j => Q (.int (i - j)) A
  | .mul, .int i, .int j => CMul i j ∧ Q (.int (i * j)) A
  | .mul, .ref a, .int k => match A a with
    | some (.lst xs) => (-(2 ^ 63) ≤ k ∧ k < 2 ^ 63) ∧ xs.length * k.toNat ≤ sizeLine ∧ newL A (List.replicate k.toNat xs).flatten Q
    | _ => False
  | .add, .fl xs, y => match flD A y with
    | some ys => xs.length + ys.length ≤ sizeLine ∧ newL A (xs ++ ys) Q
    | none => False
  | .add, .ref a, .fl ys => match A a with
    | some (.lst xs) => xs.length + ys.length ≤ sizeLine ∧ newL A (xs ++ ys) Q
    | _ => False
  | .mul, .fl xs, .int k => (-(2 ^ 63) ≤ k ∧ k < 2 ^ 63) ∧ xs.length * k.toNat ≤ sizeLine ∧ newL A (List.replicate k.toNat xs).flatten Q
  | .mul, .tup xs, .int k => 2 ≤ k ∧ k ≤ 1000 ∧ xs.length ≤ 1000 ∧ Q (.tup (List.replicate k.toNat xs).flatten) A
  | .fdiv, .int i, .int j => CDiv i j ∧ Q (.int (i / j)) A
  | .mod, .int i, .int j => 0 < j ∧ Q (.int (i % j)) A
  | _, _, _ => False
def dCmp (o : CO) (x y : D) (A : AH) (Q : QE) : Prop := match o with
  | .eq => match pd A 6 x, pd A 6 y with | some p, some q => Q (.bl (PyData.eqv p q)) A | _, _ => False
  | .ne => match pd A 6 x, pd A 6 y with | some p, some q => Q (.bl (!PyData.eqv p q)) A | _, _ => False
  | .lt => match x, y with | .int i, .int j => Q (.bl (decide (i < j))) A | _, _ => False
  | .le => match x, y with | .int i, .int j => Q (.bl (decide (i ≤ j))) A | _, _ => False
  | .gt => match x, y with | .int i, .int j => Q (.bl (decide (j < i))) A | _, _ => False
  | .ge => match x, y with | .int i, .int j => Q (.bl (decide (j ≤ i))) A | _, _ => False
  | .inn => match seqD A y with | some ys => flatD x = true ∧ ys.all flatD = true ∧ Q (.bl (inV (flV x) (ys.map flV))) A | _ => False
  | .kin => match dicD A y, keyD x with | some kvs, some k => Q (.bl (valD kvs k).isSome) A | _, _ => False
  | .nkin => match dicD A y, keyD x with | some kvs, some k => Q (.bl (!(valD kvs k).isSome)) A | _, _ => False
  | .din => match seqD A y with | some ys => (match pd A 6 x, pds (pd A 6) ys with | some p, some ps => Q (.bl (ps.any fun q => PyData.eqv q p)) A | _, _ => False) | none => False
  | .ndin => match seqD A y with | some ys => (match pd A 6 x, pds (pd A 6) ys with | some p, some ps => Q (.bl (!ps.any fun q => PyData.eqv q p)) A | _, _ => False) | none => False
  | .sin => match x, y with | .str t, .str z => (match t.cps.toList with | [c] => Q (.bl (decide (c ∈ z.cps.toList))) A | _ => False) | _, _ => False
  | .nsin => match x, y with | .str t, .str z => (match t.cps.toList with | [c] => Q (.bl (!decide (c ∈ z.cps.toList))) A | _ => False) | _, _ => False
  | .nin => match seqD A y with | some ys => flatD x = true ∧ ys.all flatD = true ∧ Q (.bl (!inV (flV x) (ys.map flV))) A | _ => False
def dTru (x : D) (A : AH) (Q : Bool → AH → Prop) : Prop := match x with
  | .non => Q false A
  | .bl b => Q b A
  | .int i => Q (i != 0) A
  | .str y => y.length ≤ sizeLine ∧ Q ((y.length : Int) != 0) A
  | .tup xs => Q (!xs.isEmpty) A
  | .rol xs => Q (!xs.isEmpty) A
  | .fl xs => Q (!xs.isEmpty) A
  | .rod _ _ => False
  | .ptp _ => False
  | .ref a => match A a with
    | some (.lst xs) => Q (!xs.isEmpty) A
    | some (.dk kvs) => Q (!kvs.isEmpty) A
    | _ => False
def isD (k : TyK) (A : AH) : D → Option Bool
  | .non => some false
  | .bl _ => some (match k with | .int => true | .bool => true | _ => false)
  | .int _ => some (match k with | .int => true | _ => false)
  | .str _ => some (match k with | .str => true | _ => false)
  | .tup _ => some (match k with | .tuple => true | _ => false)
  | .rol _ => some (match k with | .list => true | _ => false)
  | .fl _ => some (match k with | .list => true | _ => false)
  | .rod _ _ => some false
  | .ptp _ => none
  | .ref a => match A a with | some (.lst _) => some (match k with | .list => true | _ => false) | _ => none
def dIx (x i : D) (A : AH) (Q : QE) : Prop := match i with
  | .int k => match seqD A x with
    | some xs => match atI xs k with | some d => Q d A | none => False
    | none => match x with
      | .str z => z.length ≤ sizeLine ∧ (match atI z.cps.toList k with | some c => Q (.str ⟨#[c]⟩) A | none => False)
      | _ => match dicD A x with
        | some kvs => match valD kvs (.inl k) with | some v => Q v A | none => False
        | none => False
  | .str z => match dicD A x with
    | some kvs => match valD kvs (.inr z) with | some v => Q v A | none => False
    | none => False
  | _ => False
def dCut (x : D) (lo hi : Option Int) (A : AH) (Q : QE) : Prop := match x with
  | .tup xs => Q (.tup (cutL xs lo hi)) A
  | .rol xs => newL A (cutL xs lo hi) Q
  | .fl xs => newL A (cutL xs lo hi) Q
  | .str z => z.length ≤ sizeLine ∧ Q (.str (cutS z lo hi)) A
  | .ref a => match A a with | some (.lst xs) => newL A (cutL xs lo hi) Q | _ => False
  | _ => False
def stepL {α : Type} (k : Nat) (xs : List α) : List α := (List.range ((xs.length + k - 1) / k)).filterMap fun i => xs[i * k]?
def dRev (x : D) (A : AH) (Q : QE) : Prop := match x with
  | .tup xs => Q (.tup xs.reverse) A
  | .rol xs => newL A xs.reverse Q
  | .fl xs => newL A xs.reverse Q
  | .ref a => match A a with | some (.lst xs) => newL A xs.reverse Q | _ => False
  | _ => False
def dSort (x : D) (A : AH) (Q : QE) : Prop := match seqD A x with
  | some xs => match alls int1 xs with
    | some ns => newL A ((sortI ns).map .int) Q
    | none => match alls pr1 xs with
      | some ps => newL A ((sortP ps).map prD) Q
      | none => False
  | none => False
/-- sorted(set(xs)) -/
def ddI : List Int → List Int
  | [] => []
  | x :: r => if (ddI r).contains x then ddI r else x :: ddI r
def dBi (b : BI) (ds : List D) (A : AH) (Q : QE) : Prop := match b, ds with
  | .len, [.str z] => z.length ≤ sizeLine ∧ Q (.int z.length) A
  | .len, [x] => match seqD A x with
    | some xs => Q (.int xs.length) A
    | none => False
  | .lend, [x] => match dicD A x with | some kvs => Q (.int kvs.length) A | none => False
  | .sum, [x] => match lstD A x with
    | some xs => match alls int1 xs with | some ns => Q (.int ns.sum) A | none => False
    | none => False
  | .all, [x] => match lstD A x with
    | some xs => match alls bl1 xs with | some ns => Q (.bl (ns.all id)) A | none => False
    | none => False
  | .any, [x] => match lstD A x with
    | some xs => match alls bl1 xs with | some ns => Q (.bl (ns.any id)) A | none => False
    | none => False
  | .tuple, [x] => match seqD A x with
    | some xs => Q (.tup xs) A
    | none => False
  | .tupd, [x] => match dicD A x with | some kvs => Q (.tup (kvs.map fun kv => ofKey kv.1)) A | none => False
  | .list, [x] => match seqD A x with
    | some xs => newL A xs Q
    | none => False
  | .listd, [x] => match dicD A x with | some kvs => newL A (kvs.map fun kv => ofKey kv.1) Q | none => False
  | .sort3, [x] => match seqD A x with
    | some xs => match alls tri1 xs with | some ps => newL A ((sortT ps).map triD) Q | none => False
    | none => False
  | .sortd, [x] => match dicD A x with
    | some kvs => match alls int1 (kvs.map fun kv => ofKey kv.1) with | some ns => newL A ((sortI ns).map .int) Q | none => False
    | none => False
  | .sorted, [x] => dSort x A Q
  | .ssort, [x] => match lstD A x with
    | some xs => match alls int1 xs with | some ns => ns.length ≤ 1000 ∧ newL A ((sortI (ddI ns)).map .int) Q | none => False
    | none => False
  | .sitems, [.ref a] => match A a with
    | some (.dk kvs) => match alls pr1 (kvs.map fun kv => .tup [ofKey kv.1, kv.2]) with | some ps => newL A ((sortP ps).map prD) Q | none => False
    | _ => False
  | .dict, [x] => match dicD A x with
    | some kvs => newD A kvs Q
    | none => False
  | .dictp, [x] => match lstD A x with
    | some xs => match alls kv1 xs with | some kvs => newD A (mergeD [] kvs) Q | none => False
    | none => False
  | .dictt, [x] => match x with
    | .ptp xs => match alls kv1 xs with | some kvs => newD A (mergeD [] kvs) Q | none => False
    | _ => False
  | .int1, [.int i] => Q (.int i) A
  | .int1, [.bl k] => Q (.int (if k then 1 else 0)) A
  | .str1, [.int i] => i.natAbs.log2 < 1920 ∧ Q (.str (toString i)) A
  | .ints, [.str z] => match PySem.intText? z with | some i => z.length ≤ 640 ∧ Q (.int i) A | none => False
  | .smul, [.str z, .int k] => (k = 0 ∧ Q (.str Str.empty) A) ∨ (k = 1 ∧ Q (.str z) A)
  | .min2, [.int i, .int j] => Q (.int (if j < i then j else i)) A
  | .max2, [.int i, .int j] => Q (.int (if j > i then j else i)) A
  | .min1, [x] => match lstD A x with
    | some xs => match alls int1 xs with
      | some ns => 0 < ns.length ∧ ∀ m, m ∈ ns → (∀ y, y ∈ ns → m ≤ y) → Q (.int m) A
      | none => False
    | none => False
  | .max1, [x] => match lstD A x with
    | some xs => match alls int1 xs with
      | some ns => 0 < ns.length ∧ ∀ m, m ∈ ns → (∀ y, y ∈ ns → y ≤ m) → Q (.int m) A
      | none => False
    | none => False
  | _, _ => False
def rgD (i j : Int) : List D := (List.range (j - i).toNat).map fun k => .int (i + (k : Nat))
def rgC (ds : List D) (R : Int → Int → Prop) : Prop := match ds with
  | [.int m] => R 0 m
  | [.int i, .int j] => R i j
  | _ => False
def dRgl (t : Bool) (ds : List D) (A : AH) (Q : QE) : Prop := rgC ds fun i j => RgOk i j ∧ (if t = true then Q (.tup (rgD i j)) A else newL A (rgD i j) Q)
def dBm (m : BM) (o : D) (ds : List D) (A : AH) (Q : QE) : Prop := match m, o, ds with
  | .append, .ref a, [x] => match A a with
    | some (.lst xs) => xs.length < sizeLine ∧ Q .non (up A a (.lst (xs ++ [x])))
    | _ => False
  | .extend, .ref a, [.ref b] => match A a, A b with
    | some (.lst xs), some (.lst ys) => xs.length + ys.length ≤ sizeLine ∧ Q .non (up A a (.lst (xs ++ ys)))
    | _, _ => False
  | .pop, .ref a, [] => match A a with
    | some (.lst xs) => match xs[xs.length - 1]? with
      | some y => Q y (up A a (.lst xs.dropLast))
      | none => False
    | _ => False
  | .popi, .ref a, [.int i] => match A a with
    | some (.lst xs) => (-(2 ^ 63) ≤ i ∧ i < 2 ^ 63) ∧ (match ixN xs.length i with
      | some k => match xs[k]? with | some y => Q y (up A a (.lst (xs.eraseIdx k))) | none => False
      | none => False)
    | _ => False
  | .extend, .ref a, [.fl ys] => match A a with
    | some (.lst xs) => xs.length + ys.length ≤ sizeLine ∧ Q .non (up A a (.lst (xs ++ ys)))
    | _ => False
  | .get, x, [k] => match dicD A x, keyD k with | some kvs, some k => Q ((valD kvs k).getD .non) A | _, _ => False
  | .get, x, [k, z] => match dicD A x, keyD k with | some kvs, some k => Q ((valD kvs k).getD z) A | _, _ => False
  | .dpop, .ref a, [k] => match A a, keyD k with
    | some (.dk kvs), some k => (match valD kvs k with | some v => Q v (up A a (.dk (dropD kvs k))) | none => False)
    | _, _ => False
  | .dpop, .ref a, [k, z] => match A a, keyD k with
    | some (.dk kvs), some k => (match valD kvs k with | some v => Q v (up A a (.dk (dropD kvs k))) | none => Q z A)
    | _, _ => False
  | .setdefault, .ref a, [k, z] => match A a, keyD k with
    | some (.dk kvs), some k => kvs.length < sizeLine ∧ (match valD kvs k with | some v => Q v A | none => Q z (up A a (.dk (putD kvs k z))))
    | _, _ => False
  | .join, .str y, [x] => match lstD A x with
    | some xs => match alls str1 xs with
      | some zs => (zs.map (·.length)).sum + zs.length * y.length ≤ 16777216 ∧ Q (.str (Txt.join y zs)) A
      | none => False
    | none => False
  | .split, .str z, [.str y] => (y.length == 0) = false ∧ z.length + 2 ≤ sizeLine ∧ newL A ((Txt.split z y).map .str) Q
  | .strip, .str z, [.str y] => z.length ≤ sizeLine ∧ Q (.str (Txt.stripChars z y)) A
  | _, _, _ => False
def tyB : BM → Ty3
  | .append => .list | .extend => .list | .pop => .list | .popi => .list
  | .get => .dict | .dpop => .dict | .items => .dict | .setdefault => .dict
  | .join => .str | .split => .str | .strip => .str
def isT (t : Ty3) (A : AH) (x : D) : Prop := match x with
  | .str _ => (match t with | .str => True | _ => False)
  | .ref a => match A a with
    | some (.lst _) => (match t with | .list => True | _ => False)
    | some (.dk _) => (match t with | .dict => True | _ => False)
    | some (.dkl _ _) => (match t with | .dict => True | _ => False)
    | _ => False
  | .rod _ _ => (match t with | .dict => True | _ => False)
  | _ => False
def dSub (o i v : D) (A : AH) (Q : AH → Prop) : Prop := match o, i with
  | .ref a, .int k => match A a with
    | some (.lst xs) => match ixN xs.length k with | some j => Q (up A a (.lst (xs.set j v))) | none => False
    | some (.dk kvs) => kvs.length < sizeLine ∧ Q (up A a (.dk (putD kvs (.inl k) v)))
    | _ => False
  | .ref a, .str z => match A a with
    | some (.dk kvs) => kvs.length < sizeLine ∧ Q (up A a (.dk (putD kvs (.inr z) v)))
    | _ => False
  | _, _ => False

def enumD : Nat → List D → List D
  | _, [] => []
  | k, x :: r => .tup [.int (k : Nat), x] :: enumD (k + 1) r
/-- what a loop walks: its items, and what must stand at each turn -/
def dSrc (k : SrcK) (ds : List D) (A : AH) (Q : List D → (AH → Prop) → Prop) : Prop := match k, ds with
  | .seq, [.tup xs] => Q xs (fun _ => True)
  | .seq, [.rol xs] => Q xs (fun _ => True)
  | .seq, [.fl xs] => Q xs (fun _ => True)
  | .seq, [.ref a] => match A a with | some (.lst xs) => Q xs (fun A' => A' a = some (.lst xs)) | _ => False
  | .rng, ds => rgC ds fun i j => (-(2 ^ 62) ≤ i ∧ i < 2 ^ 62 ∧ -(2 ^ 62) ≤ j ∧ j < 2 ^ 62) ∧ Q (rgD i j) (fun _ => True)
  | .zip, [.tup xs, .tup ys] => Q (List.zipWith (fun x y => .tup [x, y]) xs ys) (fun _ => True)
  | .zip, [.fl xs, .fl ys] => Q (List.zipWith (fun x y => .tup [x, y]) xs ys) (fun _ => True)
  | .enum, [.fl xs] => Q (enumD 0 xs) (fun _ => True)
  | .enum, [.tup xs] => Q (enumD 0 xs) (fun _ => True)
  | .enum, [.ref a] => match A a with | some (.lst xs) => Q (enumD 0 xs) (fun A' => A' a = some (.lst xs)) | _ => False
  | .ezip, [.tup xs, .tup ys] => Q (enumD 0 (List.zipWith (fun x y => .tup [x, y]) xs ys)) (fun _ => True)
  | .keys, [.ref a] => match A a with | some (.dkl kvs u) => Q (kvs.map fun kv => ofKey kv.1) (fun A' => A' a = some (.dkl kvs u)) | _ => False
  | .sgn, [.str z] => Q (z.cps.toList.map fun c => .str ⟨#[c]⟩) (fun _ => True)
  | .zipm, [.fl xs, .tup ys] => Q (List.zipWith (fun x y => .tup [x, y]) xs ys) (fun _ => True)
  | .rng3, [.int i, .int j, .int c] => ∃ n, RgC i j c n ∧ Q ((List.range n).map fun k => .int (i + (k : Nat) * c)) (fun _ => True)
  | _, _ => False

mutual
def gAsg : Tg → D → DSt → AH → (DSt → Prop) → Prop
  | .nm i, x, δ, _, Q => Q (δ.set i (some x))
  | .tp ts, x, δ, A, Q => match seqD A x with | some xs => gAsgs ts xs δ A Q | none => False
def gAsgs : List Tg → List D → DSt → AH → (DSt → Prop) → Prop
  | [], xs, δ, _, Q => xs = [] ∧ Q δ
  | t :: ts, xs, δ, A, Q => match xs with | x :: r => gAsg t x δ A fun δ' => gAsgs ts r δ' A Q | [] => False
end
def wipeD (δ : DSt) : List Nat → DSt
  | [] => δ
  | i :: r => (wipeD δ r).set i none
def dComp (tg : Tg) (g : AH → Prop) (t : WT) (e : WE) (δ : DSt) : List D → List D → AH → QE → Prop
  | [], acc, A, Q => g A ∧ newL A acc Q
  | x :: r, acc, A, Q => g A ∧ gAsg tg x δ A fun δ' => t δ' A (fun b A1 => if b = true then e δ' A1 (fun y A2 => dComp tg g t e δ r (acc ++ [y]) A2 Q) (fun _ _ => False) else dComp tg g t e δ r acc A1 Q) (fun _ _ => False)
/-- the same, where a turn may raise -/
def dCompX (tg : Tg) (g : AH → Prop) (t : WT) (e : WE) (δ : DSt) : List D → List D → AH → QE → XQ → Prop
  | [], acc, A, Q, _ => g A ∧ newL A acc Q
  | x :: r, acc, A, Q, E => g A ∧ gAsg tg x δ A fun δ' => t δ' A (fun b A1 => if b = true then e δ' A1 (fun y A2 => dCompX tg g t e δ r (acc ++ [y]) A2 Q E) E else dCompX tg g t e δ r acc A1 Q E) E
/-- a text or a number, as a text -/
def txt1 : D → Option Str | .str z => some z | .int i => some (toString i : String) | _ => none
def fmtOk : D → Prop | .int i => i.natAbs.log2 < 1920 | .str z => z.length ≤ sizeLine | _ => False
/-- a comparison's answer as a bool -/
def bTst (Q : Bool → AH → Prop) : QE := fun x A => match x with | .bl b => Q b A | _ => False

mutual
def wpE (c : CallT) (G : Gm) : IE → WE
  | .var i => fun δ A Q _ => match δ[i]? with | some (some d) => Q d A | _ => False
  | .cst d => fun _ A Q _ => Q d A
  | .tup es => fun δ A Q E => wpEs c G es δ A (fun ds A1 => ds.length ≤ sizeLine ∧ Q (.tup ds) A1) E
  | .lst es => fun δ A Q E => wpEs c G es δ A (fun ds A1 => ds.length ≤ sizeLine ∧ newL A1 ds Q) E
  | .bin o a b => fun δ A Q E => wpE c G a δ A (fun x A1 => wpE c G b δ A1 (fun y A2 => dBin o x y A2 Q) E) E
  | .neg a => fun δ A Q E => wpE c G a δ A (fun x A1 => match x with | .int i => Q (.int (-i)) A1 | _ => False) E
  | .cmp o a b => fun δ A Q E => wpE c G a δ A (fun x A1 => wpE c G b δ A1 (fun y A2 => dCmp o x y A2 Q) E) E
  | .chn o p a b d => fun δ A Q E => wpE c G a δ A (fun x A1 => wpE c G b δ A1 (fun y A2 => dCmp o x y A2 (bTst fun k A3 =>
      if k = true then wpE c G d δ A3 (fun z A4 => dCmp p y z A4 Q) E else Q (.bl false) A3)) E) E
  | .ch3 o p q a b d e => fun δ A Q E => wpE c G a δ A (fun x A1 => wpE c G b δ A1 (fun y A2 => dCmp o x y A2 (bTst fun k A3 =>
      if k = true then wpE c G d δ A3 (fun z A4 => dCmp p y z A4 (bTst fun l A5 => if l = true then wpE c G e δ A5 (fun u A6 => dCmp q z u A6 Q) E else Q (.bl false) A5)) E else Q (.bl false) A3)) E) E
  | .isn neg a => fun δ A Q E => wpE c G a δ A (fun x A1 => Q (.bl (if neg = true then !isNonD x else isNonD x)) A1) E
  | .isb neg a b => fun δ A Q E => wpE c G a δ A (fun x A1 => wpE c G b δ A1 (fun y A2 => match x, y with | .bl k, .bl l => Q (.bl (if neg = true then !decide (k = l) else decide (k = l))) A2 | _, _ => False) E) E
  | .notv a => fun δ A Q E => wpE c G a δ A (fun x A1 => dTru x A1 fun k A2 => Q (.bl (!k)) A2) E
  | .andv a b => fun δ A Q E => wpE c G a δ A (bTst fun k A1 => if k = true then wpE c G b δ A1 Q E else Q (.bl false) A1) E
  | .orv a b => fun δ A Q E => wpE c G a δ A (bTst fun k A1 => if k = true then Q (.bl true) A1 else wpE c G b δ A1 Q E) E
  | .ite t a b => fun δ A Q E => wpT c G t δ A (fun k A1 => if k = true then wpE c G a δ A1 Q E else wpE c G b δ A1 Q E) E
  | .call f es => fun δ A Q E => wpEs c G es δ A (fun ds A1 => c f ds A1 Q E) E
  | .make C es => fun δ A Q E => wpEs c G es δ A (fun ds A1 => match G.cl C with
      | some cd => ∀ x, A1 x = none → c cd.init (.ref x :: ds) (up A1 x (.ins C [])) (fun r A2 => (match r with | .non => True | _ => False) ∧ Q (.ref x) A2) E
      | none => False) E
  | .meth m o es => fun δ A Q E => wpE c G o δ A (fun x A1 => match x with
      | .ref a => match A1 a with
        | some (.ins C fs) => match G.cl C with
          | some cd => match cd.ms.lookup m with
            | some f => wpEs c G es δ A1 (fun ds A2 => c f (x :: ds) A2 Q E) E
            | none => False
          | none => False
        | _ => False
      | _ => False) E
  | .fld C i o => fun δ A Q E => wpE c G o δ A (fun x A1 => match x with
      | .ref a => match A1 a with
        | some (.ins C' fs) => C' = C ∧ (match fs[i]? with | some d => Q d A1 | none => False)
        | _ => False
      | _ => False) E
  | .bi b es => fun δ A Q E => wpEs c G es δ A (fun ds A1 => dBi b ds A1 Q) E
  | .isi k a => fun δ A Q E => wpE c G a δ A (fun x A1 => match isD k A1 x with | some b => Q (.bl b) A1 | none => False) E
  | .rgl t es => fun δ A Q E => wpEs c G es δ A (fun ds A1 => dRgl t ds A1 Q) E
  | .ix a i => fun δ A Q E => wpE c G a δ A (fun x A1 => wpE c G i δ A1 (fun y A2 => dIx x y A2 Q) E) E
  | .cut a lo hi => fun δ A Q E => wpE c G a δ A (fun x A1 => wpO c G lo δ A1 (fun l A2 => wpO c G hi δ A2 (fun h A3 => dCut x l h A3 Q) E) E) E
  | .rev a => fun δ A Q E => wpE c G a δ A (fun x A1 => dRev x A1 Q) E
  | .comp k es vs tg t e => fun δ A Q E => wpEs c G es δ A (fun ds A1 => dSrc k ds A1 fun xs g => xs.length ≤ sizeLine ∧ dComp tg g (wpT c G t) (wpE c G e) (wipeD δ vs) xs [] A1 Q) E
  | .bm m o es => fun δ A Q E => wpE c G o δ A (fun x A1 => isT (tyB m) A1 x ∧ wpEs c G es δ A1 (fun ds A2 => dBm m x ds A2 Q) E) E
  | .dic es => fun δ A Q E => wpEs c G es δ A (fun ds A1 => match kvs2 ds with | some kvs => kvs.length ≤ 15 ∧ newD A1 (mergeD [] kvs) Q | none => False) (fun _ _ => False)
  | .fstr es => fun δ A Q E => wpEs c G es δ A (fun ds A1 => (∀ d ∈ ds, fmtOk d) ∧ match alls txt1 ds with | some zs => (zs.foldl (· ++ ·) Str.empty).length ≤ sizeLine ∧ (zs.map (·.length)).sum ≤ sizeLine ∧ Q (.str (zs.foldl (· ++ ·) Str.empty)) A1 | none => False) E
  | .fz e => fun δ A Q E => wpE c G e δ A (fun x A1 => dFz x A1 Q) E
  | .lk e => fun δ A Q E => ∃ a kvs, A a = some (.dk kvs) ∧ ∀ u, wpE c G e δ (up A a (.dkl kvs u)) (fun y A2 => A2 a = some (.dkl kvs u) ∧ Q y (up A2 a (.dk kvs))) (fun _ _ => False)
  | .wk e => fun δ A Q E => wpE c G e δ A (fun x A1 => Q (match x with | .ptp xs => .tup xs | x => x) A1) E
  | .ptl e => fun δ A Q E => wpE c G e δ A (fun x A1 => match lstD A1 x with | some xs => Q (.ptp xs) A1 | none => False) E
  | .ptd es => fun δ A Q E => wpEs c G es δ A (fun ds A1 => ds.length ≤ sizeLine ∧ Q (.ptp ds) A1) E
  | .step a k => fun δ A Q E => wpE c G a δ A (fun x A1 => match x with | .tup xs => 1 < k ∧ Q (.tup (stepL k xs)) A1 | _ => False) E
  | .isx x a => fun δ A Q E => False
  | .compx k es vs tg t e => fun δ A Q E => wpEs c G es δ A (fun ds A1 => dSrc k ds A1 fun xs g => xs.length ≤ sizeLine ∧ dCompX tg g (wpT c G t) (wpE c G e) (wipeD δ vs) xs [] A1 Q E) E
def wpEs (c : CallT) (G : Gm) : List IE → WA
  | [] => fun _ A Q _ => Q [] A
  | e :: es => fun δ A Q E => wpE c G e δ A (fun d A1 => wpEs c G es δ A1 (fun ds A2 => Q (d :: ds) A2) E) E
def wpO (c : CallT) (G : Gm) : Option IE → DSt → AH → (Option Int → AH → Prop) → XQ → Prop
  | none => fun _ A Q _ => Q none A
  | some e => fun δ A Q E => wpE c G e δ A (fun d A1 => match d with | .int i => Q (some i) A1 | _ => False) E
def wpT (c : CallT) (G : Gm) : IT → WT
  | .val e => fun δ A Q E => wpE c G e δ A (fun x A1 => dTru x A1 Q) E
  | .and a b => fun δ A Q E => wpT c G a δ A (fun k A1 => if k = true then wpT c G b δ A1 Q E else Q false A1) E
  | .or a b => fun δ A Q E => wpT c G a δ A (fun k A1 => if k = true then Q true A1 else wpT c G b δ A1 Q E) E
  | .not a => fun δ A Q E => wpT c G a δ A (fun k A1 => Q (!k) A1) E
  | .yes => fun _ A Q _ => Q true A
end

/-! ### statements -/
structure Pst where
  nx : DSt → AH → Prop
  rt : QE
  ct : DSt → AH → Prop
  ex : XP
abbrev WS := Pst → DSt → AH → Prop
def dFor (tg : Tg) (g : AH → Prop) (body : WS) : List D → WS
  | [], P, δ, A => g A ∧ P.nx δ A
  | x :: r, P, δ, A => g A ∧ gAsg tg x δ A fun δ' => body ⟨fun δ2 A2 => dFor tg g body r P δ2 A2, P.rt, fun δ2 A2 => dFor tg g body r P δ2 A2, P.ex⟩ δ' A
def dWhile (t : WT) (body : WS) : Nat → WS
  | 0, _, _, _ => False
  | n + 1, P, δ, A => t δ A (fun b A1 => if b = true then body ⟨fun δ2 A2 => dWhile t body n P δ2 A2, P.rt, fun δ2 A2 => dWhile t body n P δ2 A2, P.ex⟩ δ A1 else P.nx δ A1) (fun x A' => P.ex x δ A')
def setAll : List Nat → List D → DSt → DSt
  | i :: is, d :: ds, δ => setAll is ds (δ.set i (some d))
  | _, _, δ => δ
def putF' (fs : List D) (k : Nat) (v : D) : List D := if k < fs.length then fs.set k v else fs ++ [v]
mutual
def wpS (c : CallT) (G : Gm) : IS → WS
  | .set i e => fun P δ A => wpE c G e δ A (fun x A1 => P.nx (δ.set i (some x)) A1) (fun x A' => P.ex x δ A')
  | .tset tg e => fun P δ A => wpE c G e δ A (fun x A1 => gAsg tg x δ A1 fun δ' => P.nx δ' A1) (fun x A' => P.ex x δ A')
  | .par is es => fun P δ A => wpEs c G es δ A (fun ds A1 => ds.length = is.length ∧ P.nx (setAll is ds δ) A1) (fun x A' => P.ex x δ A')
  | .sub o i e => fun P δ A => wpE c G e δ A (fun v A1 => wpE c G o δ A1 (fun x A2 => wpE c G i δ A2 (fun y A3 => dSub x y v A3 fun A4 => P.nx δ A4) (fun x A' => P.ex x δ A')) (fun x A' => P.ex x δ A')) (fun x A' => P.ex x δ A')
  | .put C k o e => fun P δ A => wpE c G e δ A (fun v A1 => wpE c G o δ A1 (fun x A2 => match x with
      | .ref a => match A2 a with
        | some (.ins C' fs) => C' = C ∧ k ≤ fs.length ∧ P.nx δ (up A2 a (.ins C (putF' fs k v)))
        | _ => False
      | _ => False) (fun x A' => P.ex x δ A')) (fun x A' => P.ex x δ A')
  | .expr e => fun P δ A => wpE c G e δ A (fun _ A1 => P.nx δ A1) (fun x A' => P.ex x δ A')
  | .iff t a b => fun P δ A => wpT c G t δ A (fun k A1 => if k = true then wpSs c G a P δ A1 else wpSs c G b P δ A1) (fun x A' => P.ex x δ A')
  | .for k es tg body => fun P δ A => wpEs c G es δ A (fun ds A1 => dSrc k ds A1 fun xs g => dFor tg g (wpSs c G body) xs P δ A1) (fun x A' => P.ex x δ A')
  | .whil t body => fun P δ A => ∃ n, dWhile (wpT c G t) (wpSs c G body) n P δ A
  | .ret e => fun P δ A => wpE c G e δ A P.rt (fun x A' => P.ex x δ A')
  | .pass => fun P δ A => P.nx δ A
  | .cont => fun P δ A => P.ct δ A
  | .rais x => fun P δ A => P.ex x δ A
  | .tryx body xs suite => fun P δ A => wpSs c G body ⟨P.nx, P.rt, P.ct, fun x δ' A' => x ∈ xs ∧ wpSs c G suite ⟨P.nx, P.rt, P.ct, fun _ _ _ => False⟩ δ' A'⟩ δ A
  | .lks s => fun P δ A => ∃ a kvs, A a = some (.dk kvs) ∧ ∀ u, wpS c G s ⟨fun δ' A' => A' a = some (.dkl kvs u) ∧ P.nx δ' (up A' a (.dk kvs)), fun v A' => A' a = some (.dkl kvs u) ∧ P.rt v (up A' a (.dk kvs)), fun δ' A' => A' a = some (.dkl kvs u) ∧ P.ct δ' (up A' a (.dk kvs)), fun _ _ _ => False⟩ δ (up A a (.dkl kvs u))
  | .sub2 o i o2 i2 e => fun P δ A => wpE c G e δ A (fun v A1 => match v with
      | .tup [v1, v2] => wpE c G o δ A1 (fun x A2 => wpE c G i δ A2 (fun k A3 => dSub x k v1 A3 fun A4 =>
          wpE c G o2 δ A4 (fun y A5 => wpE c G i2 δ A5 (fun j A6 => dSub y j v2 A6 fun A7 => P.nx δ A7) (fun x A' => P.ex x δ A')) (fun x A' => P.ex x δ A')) (fun x A' => P.ex x δ A')) (fun x A' => P.ex x δ A')
      | _ => False) (fun x A' => P.ex x δ A')
def wpSs (c : CallT) (G : Gm) : List IS → WS
  | [] => fun P δ A => P.nx δ A
  | s :: ss => fun P δ A => wpS c G s ⟨fun δ' A' => wpSs c G ss P δ' A', P.rt, P.ct, P.ex⟩ δ A
end
/-- a def's slots at its start -/
def startD (n : Nat) (ds : List D) : DSt := ds.map some ++ List.replicate (n - ds.length) none
/-- a call, of at most so many calls in one another; behind it something may be forgotten -/
def callN (G : Gm) : Nat → CallT
  | 0 => fun _ _ _ _ _ => False
  | n + 1 => fun f ds A Q E => match G.fn f with
    | some fd => ds.length = fd.np ∧ wpSs (callN G n) G fd.body ⟨fun _ A' => ∃ B, Sub B A' ∧ Q .non B, fun v A' => ∃ B, Sub B A' ∧ Q v B, fun _ _ => False, fun x _ A' => ∃ B, Sub B A' ∧ E x B⟩ (startD fd.ns ds) A
    | none => False
end DL

set_option Elab.async false
set_option linter.all false
set_option maxRecDepth 100000
/-! the judgements of the data layer, and the rules of expressions -/
namespace DL
open PySem PySem.Spec PyProof.Rows L2

/-! ### lifts -/
def LE (L : Lk) (W : WX) (w : WE) : TE := fun σ H Q => ∃ (N : Addr → Prop), ∃ δ A Qd Ed, RS L.K A N H δ σ ∧ RA L A N H ∧ w δ A Qd Ed ∧
  (∀ d A' v H', RV L.K A' N H' d v → RA L A' N H' → Ext A H A' H' → Qd d A' → Q v H') ∧ ∀ x A' H', RA L A' N H' → Ext A H A' H' → Ed x A' → W (L.XV x) none σ H'
def LT (L : Lk) (W : WX) (w : WT) : TT := fun σ H Q => ∃ (N : Addr → Prop), ∃ δ A Qd Ed, RS L.K A N H δ σ ∧ RA L A N H ∧ w δ A Qd Ed ∧
  (∀ b A' H', RA L A' N H' → Ext A H A' H' → Qd b A' → Q b H') ∧ ∀ x A' H', RA L A' N H' → Ext A H A' H' → Ed x A' → W (L.XV x) none σ H'
def LAs (L : Lk) (W : WX) (w : WA) : TA := fun σ H Q => ∃ (N : Addr → Prop), ∃ δ A Qd Ed, RS L.K A N H δ σ ∧ RA L A N H ∧ w δ A Qd Ed ∧
  (∀ ds A' vs H', RVs L.K A' N H' ds vs → RA L A' N H' → Ext A H A' H' → Qd ds A' → Q vs H') ∧ ∀ x A' H', RA L A' N H' → Ext A H A' H' → Ed x A' → W (L.XV x) none σ H'
/-- what a call of the f-th def promises -/
def spD (L : Lk) (c : CallT) (f : Nat) : Sp := fun vs H Q E => ∃ (N : Addr → Prop), ∃ ds A Qd Ed, RVs L.K A N H ds vs ∧ RA L A N H ∧ c f ds A Qd Ed ∧
  (∀ d A' v H', RV L.K A' N H' d v → RA L A' N H' → Ext A H A' H' → Qd d A' → Q v H') ∧ ∀ x A' H', RA L A' N H' → Ext A H A' H' → Ed x A' → E (L.XV x) none H'
/-- the defs keep their promises -/
def Fns (L : Lk) (G : Gm) (n : Nat) (P : Program) (w : World) (K : PySem.W.Frag) (mg : Str → Option Value) (base : Heap) : Prop :=
  ∀ f fd, G.fn f = some fd → ∃ fdt ps, FnOk P w K mg base (L2.CX P w) (2 * n) (L.FA f) fdt ps (spD L (callN G n) f) ∧ Binds K fdt ps [] ∧ PySem.W.keepIn K (.ref (L.FA f)) = true
/-- what of the text a class must have -/
structure ClOk (L : Lk) (G : Gm) (C : Nat) (cd : ClD) : Prop where
  cls : Cls L.K (L.CA C)
  nof : ∀ f ∈ L.FN C, NoAttr L.K (L.CA C) f
  nod : (L.FN C).Nodup
  met : ∀ m f, cd.ms.lookup m = some f → Meth L.K (L.CA C) (L.MN m) (L.FA f) ∧ L.MN m ∉ L.FN C ∧ ∃ fd, G.fn f = some fd
  mak : Mk L.K (L.CA C) (L.FA cd.init) ∧ ∃ fd, G.fn cd.init = some fd
  few : (L.FN C).length < 1000
structure Cn (L : Lk) (G : Gm) (n : Nat) (X : Cx) : Prop where
  K : X.K = L.K
  calm : X.calm = true
  room : Room (2 * n + 1) X.A
  nd : X.N.Nodup
  fns : Fns L G n X.prog X.w X.K X.mg X.base
  cls : ∀ C cd, G.cl C = some cd → ClOk L G C cd

section
variable {L : Lk} {W : WX} {w : WE} {wt : WT} {wa : WA} {δ : DSt} {A : AH} {N : Addr → Prop} {Ed : XQ} {σ : L2.St} {H : Hp}
theorem LE.use {Qd : QE} {Q : VK} (rs : RS L.K A N H δ σ) (ra : RA L A N H) (h : w δ A Qd Ed) (hq : ∀ d A' v H', RV L.K A' N H' d v → RA L A' N H' → Ext A H A' H' → RS L.K A' N H' δ σ → Qd d A' → Q v H')
    (hx : ∀ x A' H', RA L A' N H' → Ext A H A' H' → Ed x A' → W (L.XV x) none σ H') : LE L W w σ H Q :=
  ⟨N, δ, A, Qd, Ed, rs, ra, h, fun d A' v H' r1 r2 x q => hq d A' v H' r1 r2 x (rs.stay (x.stay ra)) q, hx⟩
theorem LT.use {Qd : Bool → AH → Prop} {Q : Bool → Hp → Prop} (rs : RS L.K A N H δ σ) (ra : RA L A N H) (h : wt δ A Qd Ed) (hq : ∀ b A' H', RA L A' N H' → Ext A H A' H' → RS L.K A' N H' δ σ → Qd b A' → Q b H')
    (hx : ∀ x A' H', RA L A' N H' → Ext A H A' H' → Ed x A' → W (L.XV x) none σ H') : LT L W wt σ H Q :=
  ⟨N, δ, A, Qd, Ed, rs, ra, h, fun b A' H' r2 x q => hq b A' H' r2 x (rs.stay (x.stay ra)) q, hx⟩
theorem LAs.use {Qd : List D → AH → Prop} {Q : List V → Hp → Prop} (rs : RS L.K A N H δ σ) (ra : RA L A N H) (h : wa δ A Qd Ed) (hq : ∀ ds A' vs H', RVs L.K A' N H' ds vs → RA L A' N H' → Ext A H A' H' → RS L.K A' N H' δ σ → Qd ds A' → Q vs H')
    (hx : ∀ x A' H', RA L A' N H' → Ext A H A' H' → Ed x A' → W (L.XV x) none σ H') : LAs L W wa σ H Q :=
  ⟨N, δ, A, Qd, Ed, rs, ra, h, fun d A' v H' r1 r2 x q => hq d A' v H' r1 r2 x (rs.stay (x.stay ra)) q, hx⟩
end
/-- an exception's wish behind a step -/
theorem XW.ext {L : Lk} {W : WX} {N : Addr → Prop} {A A1 : AH} {H H1 : Hp} {Ed : XQ} {σ : L2.St} (hx : ∀ x A' H', RA L A' N H' → Ext A H A' H' → Ed x A' → W (L.XV x) none σ H') (e : Ext A H A1 H1) :
    ∀ x A' H', RA L A' N H' → Ext A1 H1 A' H' → Ed x A' → W (L.XV x) none σ H' := fun x A' H' r e' q => hx x A' H' r (e.trans e') q

theorem pe_imp {X : Cx} {e : Expr} {t t' : TE} (h : PE X e t) (k : ∀ σ H Q, t' σ H Q → t σ H Q) : PE X e t' := ⟨fun pins s σ H Q I q => h.run pins s σ H Q I (k σ H Q q)⟩
theorem pt_imp {X : Cx} {e : Expr} {t t' : TT} (h : PT X e t) (k : ∀ σ H Q, t' σ H Q → t σ H Q) : PT X e t' := ⟨fun pins s σ H Q I q => h.run pins s σ H Q I (k σ H Q q)⟩
theorem pw_imp {X : Cx} {e : Expr} {t t' : TT} (h : PW X e t) (k : ∀ σ H Q, t' σ H Q → t σ H Q) : PW X e t' := ⟨fun wh pins s σ H Q I q => h.run wh pins s σ H Q I (k σ H Q q)⟩
theorem pa_imp {X : Cx} {e : List Expr} {t t' : TA} (h : PA X e t) (k : ∀ σ H Q, t' σ H Q → t σ H Q) : PA X e t' := ⟨fun pos pins s σ H Q I q => h.run pos pins s σ H Q I (k σ H Q q)⟩
theorem ps_imp {X : Cx} {e : Stmt} {t t' : TS} (h : PS X e t) (k : ∀ D σ H, t' D σ H → t D σ H) : PS X e t' := ⟨fun pins s σ H D I q => h.run pins s σ H D I (k D σ H q)⟩
theorem pss_imp {X : Cx} {e : List Stmt} {t t' : TS} (h : PSs X e t) (k : ∀ D σ H, t' D σ H → t D σ H) : PSs X e t' := ⟨fun pins s σ H D I q => h.run pins s σ H D I (k D σ H q)⟩

/-! ### judgements -/
def DE (L : Lk) (G : Gm) (n : Nat) (X : Cx) (e : Expr) (i : IE) : Prop := Cn L G n X → ∀ W, Takes X W → PE X e (LE L W (wpE (callN G n) G i))
def DT (L : Lk) (G : Gm) (n : Nat) (X : Cx) (e : Expr) (i : IT) : Prop := Cn L G n X → ∀ W, Takes X W → PT X e (LT L W (wpT (callN G n) G i))
def DW (L : Lk) (G : Gm) (n : Nat) (X : Cx) (e : Expr) (i : IT) : Prop := Cn L G n X → ∀ W, Takes X W → PW X e (LT L W (wpT (callN G n) G i))
def DA (L : Lk) (G : Gm) (n : Nat) (X : Cx) (e : List Expr) (i : List IE) : Prop := Cn L G n X → ∀ W, Takes X W → PA X e (LAs L W (wpEs (callN G n) G i))

/-! ### values -/
section
variable {K : PySem.W.Frag} {A : AH} {N : Addr → Prop} {H : Hp} {v : V}
theorem rv_non : RV K A N H .non v ↔ v = .non := by unfold RV; exact Iff.rfl
theorem rv_bl {b : Bool} : RV K A N H (.bl b) v ↔ v = .bl b := by unfold RV; exact Iff.rfl
theorem rv_int {b : Int} : RV K A N H (.int b) v ↔ v = .int b := by unfold RV; exact Iff.rfl
theorem rv_str {b : Str} : RV K A N H (.str b) v ↔ v = .str b := by unfold RV; exact Iff.rfl
theorem rv_ref {b : Addr} : RV K A N H (.ref b) v ↔ v = .ref b := by unfold RV; exact Iff.rfl
theorem rv_tup {ds : List D} : RV K A N H (.tup ds) v ↔ ∃ a vs, v = .ref a ∧ SqT K H a vs ∧ RVs K A N H ds vs := by unfold RV; exact Iff.rfl
theorem rv_fl {ds : List D} : RV K A N H (.fl ds) v ↔ ∃ a vs, v = .ref a ∧ RdL A N H a vs ∧ RVs K A N H ds vs := by unfold RV; exact Iff.rfl
theorem rv_ptp {ds : List D} : RV K A N H (.ptp ds) v ↔ ∃ a o vs, v = .ref a ∧ H a = some (.frz o (.tup vs)) ∧ o.dict = none ∧ RVs K A N H ds vs := by unfold RV; exact Iff.rfl
theorem rv_rod {ks : List Key} {ds : List D} : RV K A N H (.rod ks ds) v ↔ ∃ a ws, v = .ref a ∧ RdD A N H a ws ∧ ks = ws.map (·.1) ∧ RVs K A N H ds (ws.map (·.2)) := by unfold RV; exact Iff.rfl
theorem rv_rol {ds : List D} : RV K A N H (.rol ds) v ↔ ∃ a vs, v = .ref a ∧ SqR K A N H a vs ∧ RVs K A N H ds vs := by unfold RV; exact Iff.rfl
end
section
variable {L : Lk} {A : AH} {N : Addr → Prop} {H : Hp} {Qd : QE} {Q : VK} {d : D} {v : V} {a : Addr} {ds : List D} {vs : List V}
abbrev Kt (L : Lk) (A : AH) (N : Addr → Prop) (H : Hp) (Qd : QE) (Q : VK) : Prop := ∀ d A' v H', RV L.K A' N H' d v → RA L A' N H' → Ext A H A' H' → Qd d A' → Q v H'
theorem Kt.here (k : Kt L A N H Qd Q) (ra : RA L A N H) (r : RV L.K A N H d v) (q : Qd d A) : Q v H := k d A v H r ra (Ext.refl _ _) q
theorem Kt.int {i : Int} (k : Kt L A N H Qd Q) (ra : RA L A N H) (q : Qd (.int i) A) : Q (.int i) H := k.here ra (rv_int.mpr rfl) q
theorem Kt.bl {i : Bool} (k : Kt L A N H Qd Q) (ra : RA L A N H) (q : Qd (.bl i) A) : Q (.bl i) H := k.here ra (rv_bl.mpr rfl) q
theorem Kt.str {i : Str} (k : Kt L A N H Qd Q) (ra : RA L A N H) (q : Qd (.str i) A) : Q (.str i) H := k.here ra (rv_str.mpr rfl) q
theorem Kt.non (k : Kt L A N H Qd Q) (ra : RA L A N H) (q : Qd .non A) : Q .non H := k.here ra (rv_non.mpr rfl) q
theorem Kt.tup (k : Kt L A N H Qd Q) (ra : RA L A N H) (r : RVs L.K A N H ds vs) (q : Qd (.tup ds) A) : ∀ p, H p = none → Q (.ref p) (upd H p (.tup vs)) := fun p np =>
  k _ A _ _ (rv_tup.mpr ⟨p, vs, rfl, SqT.of upd_same, RVs.stay ((Ext.tupNew ra np).stay ra) _ _ r⟩) (ra.tupNew np) (Ext.tupNew ra np) q
theorem Kt.lst (k : Kt L A N H Qd Q) (ra : RA L A N H) (r : RVs L.K A N H ds vs) (q : newL A ds Qd) : ∀ p, H p = none → Q (.ref p) (upd H p (.lst vs)) := fun p np =>
  k _ _ _ _ (rv_ref.mpr rfl) (ra.new np (o := .lst ds) ⟨vs, upd_same, RVs.stay ((Ext.new ra np).stay ra) _ _ r⟩) (Ext.new ra np) (q p (ra.non np))
/-- a list written -/
theorem RA.lput {o : AO} (ra : RA L A N H) (e : A a = some o) (r : RVs L.K A N H ds vs) : RA L (up A a (.lst ds)) N (upd H a (.lst vs)) :=
  ra.put e ⟨vs, upd_same, RVs.stay ((Ext.put e).stay ra) _ _ r⟩
theorem Kt.lput {xs : List D} (k : Kt L A N H Qd Q) (ra : RA L A N H) (e : A a = some (.lst xs)) (r : RVs L.K A N H ds vs) (rd : RV L.K A N H d v) (q : Qd d (up A a (.lst ds))) : Q v (upd H a (.lst vs)) :=
  k _ _ _ _ (RV.stay ((Ext.put e).stay ra) _ _ rd) (ra.lput e r) (Ext.put e) q
/-- a thing to be walked -/
theorem seqD_rv (h : seqD A d = some ds) (ra : RA L A N H) (r : RV L.K A N H d v) : ∃ a vs, v = .ref a ∧ (SqL L.K H a vs ∨ SqT L.K H a vs) ∧ RVs L.K A N H ds vs := by
  cases d with
  | tup xs => cases h; obtain ⟨a, vs, e, h1, h2⟩ := rv_tup.mp r; exact ⟨a, vs, e, .inr h1, h2⟩
  | rol xs => cases h; obtain ⟨a, vs, e, h1, h2⟩ := rv_rol.mp r; exact ⟨a, vs, e, .inl h1.seq, h2⟩
  | fl xs => cases h; obtain ⟨a, vs, e, h1, h2⟩ := rv_fl.mp r; exact ⟨a, vs, e, .inl (.inl h1.1), h2⟩
  | ptp xs => cases h; obtain ⟨a, o, vs, e, h1, h2, h3⟩ := rv_ptp.mp r; exact ⟨a, vs, e, .inr (.inl (.inr ⟨o, h1⟩)), h3⟩
  | rod _ _ => cases h
  | ref b =>
    cases q : A b with
    | none => simp [seqD, q] at h
    | some o =>
      cases o with
      | lst xs =>
        simp only [seqD, q] at h
        cases h
        obtain ⟨vs, h1, h2⟩ := ra b _ q
        exact ⟨b, vs, rv_ref.mp r, .inl (SqL.of h1), h2⟩
      | dk _ => simp [seqD, q] at h
      | dkl _ _ => simp [seqD, q] at h
      | ins _ _ => simp [seqD, q] at h
  | non => cases h
  | bl _ => cases h
  | int _ => cases h
  | str _ => cases h
theorem seqD_ref {b : Addr} (h : seqD A (.ref b) = some ds) : A b = some (.lst ds) := by
  cases q : A b with
  | none => simp [seqD, q] at h
  | some o => cases o <;> simp [seqD, q] at h; subst h; rfl
theorem flD_rv (h : flD A d = some ds) (ra : RA L A N H) (r : RV L.K A N H d v) : ∃ a vs, v = .ref a ∧ Rd H a (.lst vs) ∧ RVs L.K A N H ds vs := by
  cases d with
  | fl xs => cases h; obtain ⟨a, vs, e, h1, h2⟩ := rv_fl.mp r; exact ⟨a, vs, e, h1.1, h2⟩
  | ref b =>
    cases q : A b with
    | none => simp [flD, q] at h
    | some o =>
      cases o <;> simp [flD, q] at h
      subst h
      obtain ⟨vs, h1, h2⟩ := ra b _ q
      exact ⟨b, vs, rv_ref.mp r, .inl h1, h2⟩
  | _ => cases h
theorem lstD_rv (h : lstD A d = some ds) (ra : RA L A N H) (r : RV L.K A N H d v) : ∃ a vs, v = .ref a ∧ SqL L.K H a vs ∧ RVs L.K A N H ds vs := by
  cases d with
  | fl xs => cases h; obtain ⟨a, vs, e, h1, h2⟩ := rv_fl.mp r; exact ⟨a, vs, e, .inl h1.1, h2⟩
  | rol xs => cases h; obtain ⟨a, vs, e, h1, h2⟩ := rv_rol.mp r; exact ⟨a, vs, e, h1.seq, h2⟩
  | ref b =>
    cases q : A b with
    | none => simp [lstD, q] at h
    | some o =>
      cases o <;> simp [lstD, q] at h
      subst h
      obtain ⟨vs, h1, h2⟩ := ra b _ q
      exact ⟨b, vs, rv_ref.mp r, SqL.of h1, h2⟩
  | _ => cases h
theorem dicD_rv {kvs : List (Key × D)} (h : dicD A d = some kvs) (ra : RA L A N H) (r : RV L.K A N H d v) : ∃ a ws, v = .ref a ∧ Rd H a (.dK ws) ∧ RKs L.K A N H kvs ws := by
  cases d with
  | rod ks xs =>
    cases h
    obtain ⟨a, ws, e, h1, h2, h3⟩ := rv_rod.mp r
    have hl : ks.length = xs.length := by rw [h3.length, h2, List.length_map, List.length_map]
    refine ⟨a, ws, e, h1.1, ?_, ?_⟩
    · rw [List.map_fst_zip (by omega)]; exact h2
    · rw [List.map_snd_zip (by omega)]; exact h3
  | ref b =>
    cases q : A b with
    | none => simp [dicD, q] at h
    | some o =>
      cases o <;> simp [dicD, q] at h
      · subst h
        obtain ⟨vs, h1, h2⟩ := ra b _ q
        exact ⟨b, vs, rv_ref.mp r, .inl h1, h2⟩
      · subst h
        obtain ⟨h1, o, vs, rfl, h2⟩ := ra b _ q
        exact ⟨b, vs, rv_ref.mp r, .inr ⟨o, h1⟩, h2⟩
  | _ => cases h
/-- tables: what stands at a key -/
theorem RKs.nil : RKs L.K A N H [] [] := ⟨rfl, .nil⟩
theorem RKs.cons {p : Key × D} {q : Key × V} {kvs : List (Key × D)} {ws : List (Key × V)} (e : p.1 = q.1) (h : RV L.K A N H p.2 q.2) (t : RKs L.K A N H kvs ws) : RKs L.K A N H (p :: kvs) (q :: ws) :=
  ⟨by rw [List.map_cons, List.map_cons, e, t.1], .cons h t.2⟩
theorem RKs.cons' {p : Key × D} {kvs : List (Key × D)} {ws : List (Key × V)} (h : RKs L.K A N H (p :: kvs) ws) : ∃ q r, ws = q :: r ∧ p.1 = q.1 ∧ RV L.K A N H p.2 q.2 ∧ RKs L.K A N H kvs r := by
  obtain ⟨h1, h2⟩ := h
  cases ws with
  | nil => cases h1
  | cons q r =>
    rw [List.map_cons, List.map_cons] at h1 h2
    obtain ⟨v, t, e, h3, h4⟩ := h2.cons'
    cases e
    injection h1 with h5 h6
    exact ⟨q, r, rfl, h5, h3, h6, h4⟩
theorem RKs.nil' {ws : List (Key × V)} (h : RKs L.K A N H [] ws) : ws = [] := by
  cases ws with
  | nil => rfl
  | cons q r => cases h.1
theorem RKs.len {kvs : List (Key × D)} {ws : List (Key × V)} (h : RKs L.K A N H kvs ws) : kvs.length = ws.length := by
  have := congrArg List.length h.1
  rwa [List.length_map, List.length_map] at this
theorem RKs.val (k : Key) : ∀ {kvs : List (Key × D)} {ws : List (Key × V)}, RKs L.K A N H kvs ws → match valD kvs k, valV ws k with | some d, some v => RV L.K A N H d v | none, none => True | _, _ => False
  | [], ws, h => by rw [h.nil']; exact True.intro
  | p :: kvs, ws, h => by
    obtain ⟨q, r, rfl, e, h1, h2⟩ := h.cons'
    have ih := RKs.val k h2
    by_cases z : p.1 = k
    · have z' : q.1 = k := by rw [← e]; exact z
      rw [valV_pos z', show valD (p :: kvs) k = some p.2 by simp [valD, List.find?_cons, z]]
      exact h1
    · have z' : ¬ q.1 = k := by rw [← e]; exact z
      rw [valV_neg z', show valD (p :: kvs) k = valD kvs k by simp [valD, List.find?_cons, z]]
      exact ih
theorem RKs.any (k : Key) : ∀ {kvs : List (Key × D)} {ws : List (Key × V)}, RKs L.K A N H kvs ws → (kvs.any fun kv => decide (kv.1 = k)) = ws.any fun kv => decide (kv.1 = k)
  | [], ws, h => by rw [h.nil']; rfl
  | p :: kvs, ws, h => by
    obtain ⟨q, r, rfl, e, h1, h2⟩ := h.cons'
    rw [List.any_cons, List.any_cons, RKs.any k h2, e]
theorem RKs.append : ∀ {kvs mvs : List (Key × D)} {ws us : List (Key × V)}, RKs L.K A N H kvs ws → RKs L.K A N H mvs us → RKs L.K A N H (kvs ++ mvs) (ws ++ us)
  | [], _, ws, _, h, t => by rw [h.nil']; exact t
  | p :: kvs, _, ws, _, h, t => by
    obtain ⟨q, r, rfl, e, h1, h2⟩ := h.cons'
    exact .cons e h1 (RKs.append h2 t)
theorem RKs.repl {d : D} {v : V} (k : Key) (rd : RV L.K A N H d v) : ∀ {kvs : List (Key × D)} {ws : List (Key × V)}, RKs L.K A N H kvs ws → RKs L.K A N H (kvs.map fun kv => if kv.1 = k then (kv.1, d) else kv) (ws.map fun kv => if kv.1 = k then (kv.1, v) else kv)
  | [], ws, h => by rw [h.nil']; exact .nil
  | p :: kvs, ws, h => by
    obtain ⟨q, r, rfl, e, h1, h2⟩ := h.cons'
    rw [List.map_cons, List.map_cons]
    refine .cons ?_ ?_ (RKs.repl k rd h2)
    · by_cases z : p.1 = k
      · rw [if_pos z, if_pos (by rw [← e]; exact z)]; exact e
      · rw [if_neg z, if_neg (by rw [← e]; exact z)]; exact e
    · by_cases z : p.1 = k
      · rw [if_pos z, if_pos (by rw [← e]; exact z)]; exact rd
      · rw [if_neg z, if_neg (by rw [← e]; exact z)]; exact h1
theorem RKs.put {d : D} {v : V} (k : Key) (rd : RV L.K A N H d v) {kvs : List (Key × D)} {ws : List (Key × V)} (h : RKs L.K A N H kvs ws) : RKs L.K A N H (putD kvs k d) (putK ws k v) := by
  unfold putD putK
  rw [h.any k]
  split
  · exact RKs.repl k rd h
  · exact h.append (.cons rfl rd .nil)
theorem RKs.drop (k : Key) : ∀ {kvs : List (Key × D)} {ws : List (Key × V)}, RKs L.K A N H kvs ws → RKs L.K A N H (dropD kvs k) (dropK ws k)
  | [], ws, h => by rw [h.nil']; exact .nil
  | p :: kvs, ws, h => by
    obtain ⟨q, r, rfl, e, h1, h2⟩ := h.cons'
    have ih := RKs.drop k h2
    unfold dropD dropK at *
    rw [List.filter_cons, List.filter_cons, ← e]
    split
    · exact .cons e h1 ih
    · exact ih
theorem RKs.merge : ∀ {more : List (Key × D)} {us : List (Key × V)} {kvs : List (Key × D)} {ws : List (Key × V)}, RKs L.K A N H more us → RKs L.K A N H kvs ws → RKs L.K A N H (mergeD kvs more) (mergeK ws us)
  | [], us, _, _, h, t => by rw [h.nil']; exact t
  | p :: more, us, kvs, ws, h, t => by
    obtain ⟨q, r, rfl, e, h1, h2⟩ := h.cons'
    show RKs L.K A N H (mergeD (putD kvs p.1 p.2) more) (mergeK (putK ws q.1 q.2) r)
    rw [← e]
    exact RKs.merge h2 (t.put p.1 h1)
theorem keyD_rv {d : D} {k : Key} {v : V} (h : keyD d = some k) (r : RV L.K A N H d v) : v = kV k := by
  cases d with
  | int i => cases h; exact rv_int.mp r
  | str x => cases h; exact rv_str.mp r
  | _ => cases h
theorem ofKey_rv (k : Key) : RV L.K A N H (ofKey k) (kV k) := by
  cases k with
  | inl i => exact rv_int.mpr rfl
  | inr x => exact rv_str.mpr rfl
theorem alls_int {xs : List D} {ns : List Int} (h : alls int1 xs = some ns) : xs = ns.map .int := by
  induction xs generalizing ns with
  | nil => cases h; rfl
  | cons x r ih =>
    unfold alls at h
    split at h
    · next y ys e1 e2 =>
      cases h
      rw [ih e2]
      cases x <;> simp [int1] at e1
      rw [e1]; rfl
    · cases h
theorem alls_bl {xs : List D} {ns : List Bool} (h : alls bl1 xs = some ns) : xs = ns.map .bl := by
  induction xs generalizing ns with
  | nil => cases h; rfl
  | cons x r ih =>
    unfold alls at h
    split at h
    · next y ys e1 e2 =>
      cases h
      rw [ih e2]
      cases x <;> simp [bl1] at e1
      rw [e1]; rfl
    · cases h
theorem pr1_some {x : D} {p : Int × Int} (h : pr1 x = some p) : x = prD p := by
  unfold pr1 at h
  split at h
  · cases h; rfl
  · cases h
theorem alls_pr {xs : List D} {ns : List (Int × Int)} (h : alls pr1 xs = some ns) : xs = ns.map prD := by
  induction xs generalizing ns with
  | nil => cases h; rfl
  | cons x r ih =>
    unfold alls at h
    split at h
    · next y ys e1 e2 =>
      cases h
      rw [ih e2, pr1_some e1]; rfl
    · cases h
end

/-! ### operators -/
/-- a two-place reading by values follows from the one over data -/
def DOp (L : Lk) (r : R2) (rd : D → D → AH → QE → Prop) : Prop := ∀ x y v u A N H Q Qd, RV L.K A N H x v → RV L.K A N H y u → RA L A N H → rd x y A Qd → Kt L A N H Qd Q → r v u H Q
section
variable {L : Lk} {G : Gm} {n : Nat} {X : Cx} {a b c : Expr} {ia ib ic : IE} {pos : Pos}
theorem de_bin {op : Operator} {o : BO} {r : R2} (ho : OpR X (binaryOp op) r) (hr : X.K = L.K → DOp L r (dBin o)) (ha : DE L G n X a ia) (hb : DE L G n X b ib) : DE L G n X (.BinOp a op b pos) (.bin o ia ib) := fun C W tk =>
  pe_imp (pe_op ho (ha C W tk) (hb C W tk)) fun σ H Q ⟨N, δ, A, Qd, Ed, rs, ra, h, hq, hx⟩ =>
    LE.use rs ra h (fun x A1 v1 H1 rv1 ra1 ex1 rs1 q1 => LE.use rs1 ra1 q1 (fun y A2 v2 H2 rv2 ra2 ex2 rs2 q2 =>
      hr C.K x y v1 v2 A2 N H2 Q Qd (RV.stay (ex2.stay ra1) _ _ rv1) rv2 ra2 q2 fun d A' v' H' r1 r2 e q => hq d A' v' H' r1 r2 ((ex1.trans ex2).trans e) q) (XW.ext hx ex1)) hx
theorem de_cmp {op : CmpOp} {o : CO} {r : R2} (ho : OpR X (compareOp op) r) (hr : X.K = L.K → DOp L r (dCmp o)) (hm : behindInMarks op b = false) (ha : DE L G n X a ia) (hb : DE L G n X b ib) : DE L G n X (.Compare a [op] [b] pos) (.cmp o ia ib) := fun C W tk =>
  pe_imp (pe_cmpR ho (ha C W tk) (hb C W tk) hm) fun σ H Q ⟨N, δ, A, Qd, Ed, rs, ra, h, hq, hx⟩ =>
    LE.use rs ra h (fun x A1 v1 H1 rv1 ra1 ex1 rs1 q1 => LE.use rs1 ra1 q1 (fun y A2 v2 H2 rv2 ra2 ex2 rs2 q2 =>
      hr C.K x y v1 v2 A2 N H2 Q Qd (RV.stay (ex2.stay ra1) _ _ rv1) rv2 ra2 q2 fun d A' v' H' r1 r2 e q => hq d A' v' H' r1 r2 ((ex1.trans ex2).trans e) q) (XW.ext hx ex1)) hx
end
theorem Rd.lstM {X : Cx} {pins : List (Addr × Obj)} {σ : L2.St} {H : Hp} {s : Shared} {l : Addr} {xs : List V} (I : Inv X pins σ H s) (hH : Rd H l (.lst xs)) : xs.length ≤ sizeLine ∧ ∃ (its : List Value) (n : Nat), Vals xs its ∧ xs.length = its.length ∧ s.heap.get? l = some { cls := .type "list", data := .seq its.toArray n } := by
  obtain ⟨z, its, n, r, e⟩ := hH.ok I.hok
  exact ⟨z, its, n, r, r.length, e⟩
def rCatR : R2 := fun x y H Q => ∃ l b xs zs, x = .ref l ∧ y = .ref b ∧ Rd H l (.lst xs) ∧ Rd H b (.lst zs) ∧ xs.length + zs.length ≤ sizeLine ∧ ∀ p, H p = none → Q (.ref p) (upd H p (.lst (xs ++ zs)))
theorem op_catR {X : Cx} : OpR X (binaryOp .Add) rCatR := by
  intro pins s σ H x y v u Q I rx ry h
  obtain ⟨l, b, xs, zs, rfl, rfl, hH, hB, hz, q⟩ := h
  cases rx
  cases ry
  obtain ⟨z, its, n, r, hl, e⟩ := Rd.lstM I hH
  obtain ⟨z2, its2, n2, r2, hl2, e2⟩ := Rd.lstM I hB
  refine PySem.P.add_list e e2 ?_ (by rw [List.size_toArray, List.size_toArray]; omega)
  have ea : its.toArray ++ its2.toArray = (its ++ its2).toArray := by simp
  rw [ea]
  exact ⟨.ref _, _, I.lnew (t' := s.toks) (r.append r2) (by rw [List.length_append]; omega), rfl, q _ I.fresh⟩
def rAdd (K : PySem.W.Frag) : R2 := fun x y H Q => rI0 (fun i j => .int (i + j)) x y H Q ∨ rCatA K x y H Q ∨ rCatR x y H Q ∨ ∃ i j, x = .str i ∧ y = .str j ∧ i.length + j.length ≤ sizeLine ∧ Q (.str (i ++ j)) H
theorem op_addD {X : Cx} : OpR X (binaryOp .Add) (rAdd X.K) := op_add.or (op_catA.or (op_catR.or op_add_str))
theorem dop_add {L : Lk} : DOp L (rAdd L.K) (dBin .add) := by
  intro x y v u A N H Q Qd rx ry ra h k
  cases x with
  | int i =>
    cases y with
    | int j => exact .inl ⟨i, j, rv_int.mp rx, rv_int.mp ry, k.int ra h⟩
    | _ => exact (show False from h).elim
  | str i =>
    cases y with
    | str j => exact .inr (.inr (.inr ⟨i, j, rv_str.mp rx, rv_str.mp ry, h.1, k.str ra h.2⟩))
    | _ => exact (show False from h).elim
  | tup xs =>
    cases y with
    | tup ys =>
      obtain ⟨hz, q⟩ : xs.length + ys.length ≤ sizeLine ∧ Qd (.tup (xs ++ ys)) A := h
      obtain ⟨a, vs, e1, h1, r1⟩ := rv_tup.mp rx
      obtain ⟨b, ws, e2, h2, r2⟩ := rv_tup.mp ry
      refine .inr (.inl ⟨a, b, vs, ws, e1, e2, h1, h2, by rw [← r1.length, ← r2.length]; exact hz, fun z => ?_, fun _ z => ?_, fun _ _ => k.tup ra (r1.append r2) q⟩)
      · have z' : xs = [] := List.length_eq_zero_iff.mp (by rw [r1.length, z]; rfl)
        subst z'
        rw [← e2]; exact k.here ra ry q
      · have z' : ys = [] := List.length_eq_zero_iff.mp (by rw [r2.length, z]; rfl)
        subst z'
        rw [List.append_nil] at q
        rw [← e1]; exact k.here ra rx q
    | _ => exact (show False from h).elim
  | ref a =>
    cases y with
    | ref b =>
      unfold dBin at h
      dsimp only at h
      split at h
      · next xs ys q1 q2 =>
        obtain ⟨vs, h1, r1⟩ := ra a _ q1
        obtain ⟨ws, h2, r2⟩ := ra b _ q2
        exact .inr (.inr (.inl ⟨a, b, vs, ws, rv_ref.mp rx, rv_ref.mp ry, .inl h1, .inl h2, by rw [← r1.length, ← r2.length]; exact h.1, k.lst ra (r1.append r2) h.2⟩))
      · exact h.elim
    | fl ys =>
      unfold dBin at h
      dsimp only at h
      split at h
      · next xs q1 =>
        obtain ⟨vs, h1, r1⟩ := ra a _ q1
        obtain ⟨b, ws, e2, h2, r2⟩ := rv_fl.mp ry
        exact .inr (.inr (.inl ⟨a, b, vs, ws, rv_ref.mp rx, e2, .inl h1, h2.1, by rw [← r1.length, ← r2.length]; exact h.1, k.lst ra (r1.append r2) h.2⟩))
      · exact h.elim
    | _ => exact (show False from h).elim
  | fl xs =>
    have h : (match flD A y with | some ys => xs.length + ys.length ≤ sizeLine ∧ newL A (xs ++ ys) Qd | none => False) := by cases y <;> exact h
    split at h
    · next ys q1 =>
      obtain ⟨a, vs, e1, h1, r1⟩ := rv_fl.mp rx
      obtain ⟨b, ws, e2, h2, r2⟩ := flD_rv q1 ra ry
      exact .inr (.inr (.inl ⟨a, b, vs, ws, e1, e2, h1.1, h2, by rw [← r1.length, ← r2.length]; exact h.1, k.lst ra (r1.append r2) h.2⟩))
    · exact h.elim
  | _ => cases y <;> exact (show False from h).elim
theorem dop_sub {L : Lk} : DOp L (rI0 fun i j => .int (i - j)) (dBin .sub) := by
  intro x y v u A N H Q Qd rx ry ra h k
  cases x with
  | int i =>
    cases y with
    | int j => exact ⟨i, j, rv_int.mp rx, rv_int.mp ry, k.int ra h⟩
    | _ => exact (show False from h).elim
  | _ => cases y <;> exact (show False from h).elim
theorem dop_fdiv {L : Lk} : DOp L (rI CDiv fun i j => .int (i / j)) (dBin .fdiv) := by
  intro x y v u A N H Q Qd rx ry ra h k
  cases x with
  | int i =>
    cases y with
    | int j => exact ⟨i, j, rv_int.mp rx, rv_int.mp ry, h.1, k.int ra h.2⟩
    | _ => exact (show False from h).elim
  | _ => cases y <;> exact (show False from h).elim
theorem dop_mod {L : Lk} : DOp L (rI (fun _ j => 0 < j) fun i j => .int (i % j)) (dBin .mod) := by
  intro x y v u A N H Q Qd rx ry ra h k
  cases x with
  | int i =>
    cases y with
    | int j => exact ⟨i, j, rv_int.mp rx, rv_int.mp ry, h.1, k.int ra h.2⟩
    | _ => exact (show False from h).elim
  | _ => cases y <;> exact (show False from h).elim
def rRepR : R2 := fun x y H Q => ∃ l k xs, x = .ref l ∧ y = .int k ∧ Rd H l (.lst xs) ∧ -(2 ^ 63) ≤ k ∧ k < 2 ^ 63 ∧ xs.length * k.toNat ≤ sizeLine ∧
  ∀ p, H p = none → Q (.ref p) (upd H p (.lst (List.replicate k.toNat xs).flatten))
theorem op_repR {X : Cx} : OpR X (binaryOp .Mult) rRepR := by
  intro pins s σ H x y v u Q I rx ry h
  obtain ⟨l, k, xs, rfl, rfl, hH, h1, h2, hz, q⟩ := h
  cases rx
  obtain ⟨t, rfl⟩ := ry
  obtain ⟨z, its, n, r, hl, e⟩ := Rd.lstM I hH
  have hlen : its.toArray.size * k.toNat ≤ sizeLine := by rw [List.size_toArray, ← hl]; exact hz
  have hcap : ¬ its.toArray.size * k.toNat > (2 ^ 63 - 1) / 8 := by
    have : (sizeLine : Nat) ≤ (2 ^ 63 - 1) / 8 := by decide
    omega
  have hfit : ¬ (!Builtin.List.listFitsIndex k) = true := by
    rw [fitsIndex_both h1 h2]
    exact Bool.false_ne_true
  have hlong : ¬ Builtin.List.listTooLong (its.toArray.size * k.toNat) = true := by
    rw [notLongL hlen]
    exact Bool.false_ne_true
  have hnew : List.foldl (fun x1 x2 => x1 ++ x2) #[] (List.replicate (if its.toArray.isEmpty = true then 0 else k.toNat) its.toArray) = (List.replicate k.toNat its).flatten.toArray := by
    have f0 : ∀ m : Nat, List.foldl (fun x1 x2 => x1 ++ x2) #[] (List.replicate m its.toArray) = (List.replicate m its).flatten.toArray := fun m => by
      have := foldl_rep its m []
      rw [List.nil_append] at this
      exact this
    rw [f0]
    cases its with
    | nil => simp
    | cons a r' => rw [if_neg (by simp)]
  refine wpAny_binaryOp_repeat_ref (T := "list") (U := "int") (by decide) ⟨_, e, rfl⟩ (fun s' => typeIs_int s' k t) noFill_list_mul F.fills_int_mul F.slot_int_rmul repeat_list F.slot_int_index.lookup
    (call_meets F.slot_int_rmul (typeIs_int s k t) F.entry_int_rmul (F.args_int_rmul_2 _ _) (int___rmul___int_list k t l its.toArray n)
      ⟨e, rfl, ⟨_, e, rfl⟩, call_meets F.slot_list_mul ⟨_, e, rfl⟩ F.entry_list_mul (F.args_list_mul_2 _ _) (AutoListH.list___mul___list_int_3 l its.toArray n k t hfit hcap hlong) ⟨e, ?_⟩⟩)
  rw [hnew]
  exact ⟨.ref _, _, I.lnew (t' := s.toks) (r.rep k.toNat) (by rw [PyProof.Rows.lm_len_rep_flat, Nat.mul_comm]; exact hz), rfl, q _ I.fresh⟩
/-- the tuple of nothing, said often -/
theorem tuple_mulE (l : Addr) (n : Nat) (dd : Option Addr) (sl : Array (Option Value)) (x : Int) (u : Tok) (c0 : (decide (x < -(2 ^ 63)) || decide (x ≥ 2 ^ 63)) = false) :
    Meets (Builtin.«tuple.__mul__» ⟨[.ref l, .int x u], []⟩) (fun _ R s => s.heap.get? l = some { cls := .type "tuple", dict := dd, data := .seq #[] n, slots := sl } ∧
      R (.ok (.ret (Value.ref l))) s) :=
  .of_wp fun prog w A R s h => by
    obtain ⟨hp, g, d, tk, os⟩ := s
    obtain ⟨hl, h⟩ := h
    have f1 := AutoSeq1.idx_int
    wp_walk using wpAny_loadPart' hl
    repeat (refine wpAny_ite_false (decide_eq_false (by rw [c0]; exact Bool.false_ne_true)) ?_; wp_walk using wpAny_loadPart' hl)
    exact ⟨_, rfl, h⟩
def rRepE (K : PySem.W.Frag) : R2 := fun x y H Q => ∃ l k, x = .ref l ∧ y = .int k ∧ SqT K H l [] ∧ 2 ≤ k ∧ k ≤ 1000 ∧ Q (.ref l) H
theorem op_repE {X : Cx} : OpR X (binaryOp .Mult) (rRepE X.K) := by
  intro pins s σ H x y v u Q I rx ry h
  obtain ⟨l, k, rfl, rfl, hT, h1, h2, q⟩ := h
  have rx' := rx
  cases rx
  obtain ⟨t, rfl⟩ := ry
  obtain ⟨its, r, ⟨⟨cls, dd, data, sl⟩, ho, hc, n, hd⟩, hs⟩ := I.tuple hT
  simp only at hc hd
  subst hc hd
  have hn : its = [] := List.eq_nil_of_length_eq_zero (by have := r.length; exact this.symm)
  subst hn
  have c0 : (decide (k < -(2 ^ 63)) || decide (k ≥ 2 ^ 63)) = false := by
    rw [decide_eq_false (by omega), decide_eq_false (by omega)] <;> rfl
  refine wpAny_binaryOp_repeat_ref (T := "tuple") (U := "int") (by decide) ⟨_, ho, rfl⟩ (fun s' => typeIs_int s' k t) noFill_tuple_mul F.fills_int_mul F.slot_int_rmul repeat_tuple F.slot_int_index.lookup
    (call_meets F.slot_int_rmul (typeIs_int s k t) F.entry_int_rmul (F.args_int_rmul_2 _ _) (int_rmul_tuple k t l [].toArray n dd sl)
      ⟨ho, rfl, ⟨_, ho, rfl⟩, call_meets F.slot_tuple_mul ⟨_, ho, rfl⟩ F.entry_tuple_mul (F.args_tuple_mul_2 _ _) (tuple_mulE l n dd sl k t c0) ⟨ho, ?_⟩⟩)
  exact ⟨.ref l, _, I, rx', q⟩
def rMul (K : PySem.W.Frag) : R2 := fun x y H Q => rI CMul (fun i j => .int (i * j)) x y H Q ∨ rRepR x y H Q ∨ rRepT K x y H Q ∨ rRepE K x y H Q
theorem op_mulD {X : Cx} : OpR X (binaryOp .Mult) (rMul X.K) := op_mul.or (op_repR.or (op_repT.or op_repE))
theorem dop_mul {L : Lk} : DOp L (rMul L.K) (dBin .mul) := by
  intro x y v u A N H Q Qd rx ry ra h k
  cases x with
  | int i =>
    cases y with
    | int j => exact .inl ⟨i, j, rv_int.mp rx, rv_int.mp ry, h.1, k.int ra h.2⟩
    | _ => exact (show False from h).elim
  | tup xs =>
    cases y with
    | int j =>
      obtain ⟨h2, h3, h4, q⟩ : 2 ≤ j ∧ j ≤ 1000 ∧ xs.length ≤ 1000 ∧ Qd (.tup (List.replicate j.toNat xs).flatten) A := h
      obtain ⟨a, vs, e1, h1, r1⟩ := rv_tup.mp rx
      by_cases z : xs = []
      · subst z
        have hv : vs = [] := List.length_eq_zero_iff.mp (by rw [← r1.length]; rfl)
        subst hv
        have e0 : (List.replicate j.toNat ([] : List D)).flatten = [] := by simp
        rw [e0] at q
        subst e1
        exact .inr (.inr (.inr ⟨a, j, rfl, rv_int.mp ry, h1, h2, h3, k.here ra rx q⟩))
      · refine .inr (.inr (.inl ⟨a, j, vs, e1, rv_int.mp ry, h1, fun z' => z (List.length_eq_zero_iff.mp (by rw [r1.length, z']; rfl)), h2, h3, by rw [← r1.length]; exact h4, k.tup ra (r1.flatten _) q⟩))
    | _ => exact (show False from h).elim
  | ref a =>
    cases y with
    | int j =>
      unfold dBin at h
      dsimp only at h
      split at h
      · next xs q1 =>
        obtain ⟨vs, h1, r1⟩ := ra a _ q1
        exact .inr (.inl ⟨a, j, vs, rv_ref.mp rx, rv_int.mp ry, .inl h1, h.1.1, h.1.2, by rw [← r1.length]; exact h.2.1, k.lst ra (r1.flatten _) h.2.2⟩)
      · exact h.elim
    | _ => exact (show False from h).elim
  | fl xs =>
    cases y with
    | int j =>
      obtain ⟨hz, h2, q⟩ : (-(2 ^ 63) ≤ j ∧ j < 2 ^ 63) ∧ xs.length * j.toNat ≤ sizeLine ∧ newL A (List.replicate j.toNat xs).flatten Qd := h
      obtain ⟨a, vs, e1, h1, r1⟩ := rv_fl.mp rx
      exact .inr (.inl ⟨a, j, vs, e1, rv_int.mp ry, h1.1, hz.1, hz.2, by rw [← r1.length]; exact h2, k.lst ra (r1.flatten _) q⟩)
    | _ => exact (show False from h).elim
  | _ => cases y <;> exact (show False from h).elim

/-! ### comparisons -/
theorem shaped_pd : ∀ (n : Nat) (A : AH) (d : D) (p : PyData), pd A n d = some p → p.canLay0 = true ∧ p.depth ≤ n + 1 := by
  have scal : ∀ (n : Nat) (A : AH) (d : D) (p : PyData), (match d with | .tup _ => False | .rol _ => False | .fl _ => False | .rod _ _ => False | .ptp _ => False | .ref _ => False | _ => True) → pd A n d = some p → p.canLay0 = true ∧ p.depth ≤ 1 := by
    intro n A d p hs h
    cases d with
    | non => cases n <;> (simp only [pd] at h; cases h; simp [PyData.canLay0, PyData.depth])
    | bl b => cases n <;> (simp only [pd] at h; cases h; simp [PyData.canLay0, PyData.depth])
    | int b => cases n <;> (simp only [pd] at h; cases h; simp [PyData.canLay0, PyData.depth])
    | str b =>
      have h' : (if PyData.strOk b = true then some (PyData.str b) else none) = some p := by cases n <;> (simp only [pd] at h; exact h)
      split at h'
      · next q => cases h'; simp [PyData.canLay0, PyData.depth, q]
      · cases h'
    | _ => exact (show False from hs).elim
  intro n
  induction n with
  | zero =>
    intro A d p h
    cases d with
    | tup _ => simp [pd] at h
    | rol _ => simp [pd] at h
    | fl _ => simp [pd] at h
    | rod _ _ => simp [pd] at h
    | ptp _ => simp [pd] at h
    | ref _ => simp [pd] at h
    | _ => exact scal 0 A _ p True.intro h
  | succ n ih =>
    have many : ∀ (A : AH) (ds : List D) (ps : List PyData), pds (pd A n) ds = some ps → PyData.canLayAll0 ps = true ∧ PyData.depthAll ps ≤ n + 1 := by
      intro A ds
      induction ds with
      | nil => intro ps h; cases h; simp [PyData.canLayAll0, PyData.depthAll]
      | cons d r ihr =>
        intro ps h
        unfold pds at h
        split at h
        · next x xs e1 e2 =>
          cases h
          obtain ⟨a1, a2⟩ := ih A d x e1
          obtain ⟨b1, b2⟩ := ihr xs e2
          simp only [PyData.canLayAll0, PyData.depthAll, a1, b1, Bool.and_self, true_and]
          omega
        · cases h
    intro A d p h
    cases d with
    | tup ds =>
      simp only [pd] at h
      obtain ⟨ps, e, rfl⟩ := Option.map_eq_some_iff.mp h
      obtain ⟨b1, b2⟩ := many A ds ps e
      simp only [PyData.canLay0, PyData.depth]
      exact ⟨b1, by omega⟩
    | rol ds =>
      simp only [pd] at h
      obtain ⟨ps, e, rfl⟩ := Option.map_eq_some_iff.mp h
      obtain ⟨b1, b2⟩ := many A ds ps e
      simp only [PyData.canLay0, PyData.depth]
      exact ⟨b1, by omega⟩
    | fl ds =>
      simp only [pd] at h
      obtain ⟨ps, e, rfl⟩ := Option.map_eq_some_iff.mp h
      obtain ⟨b1, b2⟩ := many A ds ps e
      simp only [PyData.canLay0, PyData.depth]
      exact ⟨b1, by omega⟩
    | rod _ _ => simp [pd] at h
    | ptp _ => simp [pd] at h
    | ref a =>
      simp only [pd] at h
      split at h
      · next ds q =>
        obtain ⟨ps, e, rfl⟩ := Option.map_eq_some_iff.mp h
        obtain ⟨b1, b2⟩ := many A ds ps e
        simp only [PyData.canLay0, PyData.depth]
        exact ⟨b1, by omega⟩
      · cases h
    | non => obtain ⟨a1, a2⟩ := scal (n + 1) A _ p True.intro h; exact ⟨a1, by omega⟩
    | bl _ => obtain ⟨a1, a2⟩ := scal (n + 1) A _ p True.intro h; exact ⟨a1, by omega⟩
    | int _ => obtain ⟨a1, a2⟩ := scal (n + 1) A _ p True.intro h; exact ⟨a1, by omega⟩
    | str _ => obtain ⟨a1, a2⟩ := scal (n + 1) A _ p True.intro h; exact ⟨a1, by omega⟩
theorem shaped_of {A : AH} {d : D} {p : PyData} (h : pd A 6 d = some p) : SeqAt.shaped p = true := by
  obtain ⟨h1, h2⟩ := shaped_pd 6 A d p h
  unfold SeqAt.shaped
  rw [h1, decide_eq_true (by omega)]; rfl
theorem dp_of {L : Lk} {A : AH} {H : Hp} (ra : RA L A N H) : ∀ (n : Nat) (d : D) (p : PyData) (v : V), pd A n d = some p → RV L.K A N H d v → Dp L.K H v p := by
  intro n
  induction n with
  | zero =>
    intro d p v h r
    cases d with
    | non => simp only [pd] at h; cases h; rw [rv_non.mp r]; exact .non
    | bl b => simp only [pd] at h; cases h; rw [rv_bl.mp r]; exact .bl b
    | int b => simp only [pd] at h; cases h; rw [rv_int.mp r]; exact .int b
    | str b =>
      simp only [pd] at h
      split at h
      · cases h; rw [rv_str.mp r]; exact .str b
      · cases h
    | tup _ => simp [pd] at h
    | rol _ => simp [pd] at h
    | fl _ => simp [pd] at h
    | rod _ _ => simp [pd] at h
    | ptp _ => simp [pd] at h
    | ref _ => simp [pd] at h
  | succ n ih =>
    have many : ∀ (ds : List D) (ps : List PyData) (vs : List V), pds (pd A n) ds = some ps → RVs L.K A N H ds vs → DpAll L.K H vs ps := by
      intro ds
      induction ds with
      | nil => intro ps vs h r; cases h; rw [r.nil']; exact .nil
      | cons d r ihr =>
        intro ps vs h rr
        obtain ⟨v, vr, rfl, r1, r2⟩ := rr.cons'
        unfold pds at h
        split at h
        · next x xs e1 e2 =>
          cases h
          exact .cons (ih d x v e1 r1) (ihr xs vr e2 r2)
        · cases h
    intro d p v h r
    cases d with
    | non => simp only [pd] at h; cases h; rw [rv_non.mp r]; exact .non
    | bl b => simp only [pd] at h; cases h; rw [rv_bl.mp r]; exact .bl b
    | int b => simp only [pd] at h; cases h; rw [rv_int.mp r]; exact .int b
    | str b =>
      simp only [pd] at h
      split at h
      · cases h; rw [rv_str.mp r]; exact .str b
      · cases h
    | tup ds =>
      simp only [pd] at h
      obtain ⟨ps, e, rfl⟩ := Option.map_eq_some_iff.mp h
      obtain ⟨a, vs, rfl, h1, h2⟩ := rv_tup.mp r
      exact .tup h1 (many ds ps vs e h2)
    | rol ds =>
      simp only [pd] at h
      obtain ⟨ps, e, rfl⟩ := Option.map_eq_some_iff.mp h
      obtain ⟨a, vs, rfl, h1, h2⟩ := rv_rol.mp r
      exact .lst h1.seq (many ds ps vs e h2)
    | fl ds =>
      simp only [pd] at h
      obtain ⟨ps, e, rfl⟩ := Option.map_eq_some_iff.mp h
      obtain ⟨a, vs, rfl, h1, h2⟩ := rv_fl.mp r
      exact .lst (.inl h1.1) (many ds ps vs e h2)
    | rod _ _ => simp [pd] at h
    | ptp _ => simp [pd] at h
    | ref a =>
      simp only [pd] at h
      split at h
      · next ds q =>
        obtain ⟨ps, e, rfl⟩ := Option.map_eq_some_iff.mp h
        obtain ⟨vs, h1, h2⟩ := ra a _ q
        rw [rv_ref.mp r]
        exact .lst (SqL.of h1) (many ds ps vs e h2)
      · cases h
theorem dop_eq {L : Lk} : DOp L (rEqD L.K) (dCmp .eq) := by
  intro x y v u A N H Q Qd rx ry ra h k
  unfold dCmp at h
  dsimp only at h
  split at h
  · next p q e1 e2 => exact ⟨p, q, dp_of ra 6 x p v e1 rx, dp_of ra 6 y q u e2 ry, shaped_of e1, shaped_of e2, k.bl ra h⟩
  · exact h.elim
theorem dop_ne {L : Lk} : DOp L (rNeD L.K) (dCmp .ne) := by
  intro x y v u A N H Q Qd rx ry ra h k
  unfold dCmp at h
  dsimp only at h
  split at h
  · next p q e1 e2 => exact ⟨p, q, dp_of ra 6 x p v e1 rx, dp_of ra 6 y q u e2 ry, shaped_of e1, shaped_of e2, k.bl ra h⟩
  · exact h.elim
theorem dop_lt {L : Lk} : DOp L (rI0 fun i j => .bl (decide (i < j))) (dCmp .lt) := by
  intro x y v u A N H Q Qd rx ry ra h k
  cases x with
  | int i =>
    cases y with
    | int j => exact ⟨i, j, rv_int.mp rx, rv_int.mp ry, k.bl ra h⟩
    | _ => exact (show False from h).elim
  | _ => cases y <;> exact (show False from h).elim
theorem dop_le {L : Lk} : DOp L (rI0 fun i j => .bl (decide (i ≤ j))) (dCmp .le) := by
  intro x y v u A N H Q Qd rx ry ra h k
  cases x with
  | int i =>
    cases y with
    | int j => exact ⟨i, j, rv_int.mp rx, rv_int.mp ry, k.bl ra h⟩
    | _ => exact (show False from h).elim
  | _ => cases y <;> exact (show False from h).elim
theorem dop_gt {L : Lk} : DOp L (rI0 fun i j => .bl (decide (j < i))) (dCmp .gt) := by
  intro x y v u A N H Q Qd rx ry ra h k
  cases x with
  | int i =>
    cases y with
    | int j => exact ⟨i, j, rv_int.mp rx, rv_int.mp ry, k.bl ra h⟩
    | _ => exact (show False from h).elim
  | _ => cases y <;> exact (show False from h).elim
theorem dop_ge {L : Lk} : DOp L (rI0 fun i j => .bl (decide (j ≤ i))) (dCmp .ge) := by
  intro x y v u A N H Q Qd rx ry ra h k
  cases x with
  | int i =>
    cases y with
    | int j => exact ⟨i, j, rv_int.mp rx, rv_int.mp ry, k.bl ra h⟩
    | _ => exact (show False from h).elim
  | _ => cases y <;> exact (show False from h).elim
theorem flat_rv {K : PySem.W.Frag} {H : Hp} {d : D} {v : V} (f : flatD d = true) (r : RV K A N H d v) : v = flV d ∧ flatV v = true := by
  cases d with
  | non => rw [rv_non.mp r]; exact ⟨rfl, rfl⟩
  | bl b => rw [rv_bl.mp r]; exact ⟨rfl, rfl⟩
  | int b => rw [rv_int.mp r]; exact ⟨rfl, rfl⟩
  | str b => rw [rv_str.mp r]; exact ⟨rfl, rfl⟩
  | _ => cases f
theorem flats_rv {K : PySem.W.Frag} {H : Hp} : ∀ {ds : List D} {vs : List V}, ds.all flatD = true → RVs K A N H ds vs → vs = ds.map flV ∧ vs.all flatV = true
  | [], _, _, r => by rw [r.nil']; exact ⟨rfl, rfl⟩
  | d :: ds, _, f, r => by
    obtain ⟨v, vr, rfl, r1, r2⟩ := r.cons'
    rw [List.all_cons, Bool.and_eq_true] at f
    obtain ⟨e1, f1⟩ := flat_rv f.1 r1
    obtain ⟨e2, f2⟩ := flats_rv f.2 r2
    exact ⟨by rw [List.map_cons, ← e1, ← e2], by rw [List.all_cons, f1, f2]; rfl⟩
theorem dop_in {L : Lk} : DOp L (rIn L.K false) (dCmp .inn) := by
  intro x y v u A N H Q Qd rx ry ra h k
  unfold dCmp at h
  dsimp only at h
  split at h
  · next ys e =>
    obtain ⟨a, vs, rfl, h1, h2⟩ := seqD_rv e ra ry
    obtain ⟨e1, f1⟩ := flat_rv h.1 rx
    obtain ⟨e2, f2⟩ := flats_rv h.2.1 h2
    refine ⟨a, vs, rfl, h1, f1, f2, ?_⟩
    rw [if_neg Bool.false_ne_true, e1, e2]
    exact k.bl ra h.2.2
  · exact h.elim
theorem dop_nin {L : Lk} : DOp L (rIn L.K true) (dCmp .nin) := by
  intro x y v u A N H Q Qd rx ry ra h k
  unfold dCmp at h
  dsimp only at h
  split at h
  · next ys e =>
    obtain ⟨a, vs, rfl, h1, h2⟩ := seqD_rv e ra ry
    obtain ⟨e1, f1⟩ := flat_rv h.1 rx
    obtain ⟨e2, f2⟩ := flats_rv h.2.1 h2
    refine ⟨a, vs, rfl, h1, f1, f2, ?_⟩
    rw [if_pos rfl, e1, e2]
    exact k.bl ra h.2.2
  · exact h.elim
/-! ### in, of dicts, of data at any depth, of a text's signs -/
def rKin (neg : Bool) : R2 := fun x y H Q => ∃ a ws k, x = kV k ∧ y = .ref a ∧ Rd H a (.dK ws) ∧ Q (.bl (if neg then !(valV ws k).isSome else (valV ws k).isSome)) H
theorem op_kin {X : Cx} (hu : X.A.units + 1 < cLine) : OpR X (compareOp .In) (rKin false) := by
  intro pins s σ H x y v u Q I rx ry h
  obtain ⟨a, ws, k, rfl, rfl, h1, q⟩ := h
  cases ry
  exact d_in hu I (.inl ⟨ws, k, h1, rfl, rfl⟩) rx fun s3 I3 => ⟨.bl _, H, I3, rfl, q⟩
theorem op_nkin {X : Cx} (hu : X.A.units + 1 < cLine) : OpR X (compareOp .NotIn) (rKin true) := by
  intro pins s σ H x y v u Q I rx ry h
  obtain ⟨a, ws, k, rfl, rfl, h1, q⟩ := h
  cases ry
  exact d_notIn hu I (.inl ⟨ws, k, h1, rfl, rfl⟩) rx fun s3 I3 => ⟨.bl _, H, I3, rfl, q⟩
theorem RKs.isSome {L : Lk} {A : AH} {N : Addr → Prop} {H : Hp} {kvs : List (Key × D)} {ws : List (Key × V)} (h : RKs L.K A N H kvs ws) (k : Key) : (valV ws k).isSome = (valD kvs k).isSome := by
  have := h.val k
  revert this
  cases valD kvs k <;> cases valV ws k <;> intro h <;> first | rfl | exact (show False from h).elim
theorem dop_kin {L : Lk} : DOp L (rKin false) (dCmp .kin) := by
  intro x y v u A N H Q Qd rx ry ra h k
  unfold dCmp at h
  dsimp only at h
  split at h
  · next kvs ky e1 e2 =>
    obtain ⟨a, ws, rfl, h1, h2⟩ := dicD_rv e1 ra ry
    refine ⟨a, ws, ky, keyD_rv e2 rx, rfl, h1, ?_⟩
    rw [if_neg Bool.false_ne_true, h2.isSome]
    exact k.bl ra h
  · exact h.elim
theorem dop_nkin {L : Lk} : DOp L (rKin true) (dCmp .nkin) := by
  intro x y v u A N H Q Qd rx ry ra h k
  unfold dCmp at h
  dsimp only at h
  split at h
  · next kvs ky e1 e2 =>
    obtain ⟨a, ws, rfl, h1, h2⟩ := dicD_rv e1 ra ry
    refine ⟨a, ws, ky, keyD_rv e2 rx, rfl, h1, ?_⟩
    rw [if_pos rfl, h2.isSome]
    exact k.bl ra h
  · exact h.elim
def rInDp (K : PySem.W.Frag) (neg : Bool) : R2 := fun x y H Q => ∃ d ds, Dp K H x d ∧ (Dp K H y (.list ds) ∨ Dp K H y (.tuple ds)) ∧ SeqAt.shaped d = true ∧ PyData.canLayAll0 ds = true ∧ Q (.bl (if neg then !(ds.any fun z => PyData.eqv z d) else ds.any fun z => PyData.eqv z d)) H
theorem op_inDp {X : Cx} (hu : X.A.units + 65 < cLine) : OpR X (compareOp .In) (rInDp X.K false) := by
  intro pins s σ H x y v u Q I rx ry h
  obtain ⟨d, ds, hd, he, sd, se, q⟩ := h
  obtain ⟨as, r1⟩ := Dp.reads I d x v hd rx
  rcases he with he | he
  · obtain ⟨bs, r2⟩ := Dp.reads I (.list ds) y u he ry
    exact SeqAt.in_list_reads r2 r1 se (SeqAt.canLay_of_shaped sd) (room_in_shaped sd hu) ⟨.bl _, H, I, rfl, q⟩
  · obtain ⟨bs, r2⟩ := Dp.reads I (.tuple ds) y u he ry
    exact SeqAt.in_tuple_reads r2 r1 se (SeqAt.canLay_of_shaped sd) (room_in_shaped sd hu) ⟨.bl _, H, I, rfl, q⟩
theorem op_ninDp {X : Cx} (hu : X.A.units + 65 < cLine) : OpR X (compareOp .NotIn) (rInDp X.K true) := by
  intro pins s σ H x y v u Q I rx ry h
  obtain ⟨d, ds, hd, he, sd, se, q⟩ := h
  obtain ⟨as, r1⟩ := Dp.reads I d x v hd rx
  rcases he with he | he
  · obtain ⟨bs, r2⟩ := Dp.reads I (.list ds) y u he ry
    exact SeqAt.notIn_list_reads r2 r1 se (SeqAt.canLay_of_shaped sd) (room_in_shaped sd hu) ⟨.bl _, H, I, rfl, q⟩
  · obtain ⟨bs, r2⟩ := Dp.reads I (.tuple ds) y u he ry
    exact SeqAt.notIn_tuple_reads r2 r1 se (SeqAt.canLay_of_shaped sd) (room_in_shaped sd hu) ⟨.bl _, H, I, rfl, q⟩
theorem pds_shaped {A : AH} : ∀ {ds : List D} {ps : List PyData}, pds (pd A 6) ds = some ps → PyData.canLayAll0 ps = true
  | [], ps, h => by cases h; rfl
  | d :: ds, ps, h => by
    unfold pds at h
    split at h
    · next x xs e1 e2 =>
      cases h
      simp only [PyData.canLayAll0, (shaped_pd 6 A d x e1).1, pds_shaped e2, Bool.and_self]
    · cases h
theorem dps_of {L : Lk} {A : AH} {N : Addr → Prop} {H : Hp} (ra : RA L A N H) : ∀ {ds : List D} {ps : List PyData} {vs : List V}, pds (pd A 6) ds = some ps → RVs L.K A N H ds vs → DpAll L.K H vs ps
  | [], ps, vs, h, r => by cases h; rw [r.nil']; exact .nil
  | d :: ds, ps, vs, h, r => by
    obtain ⟨v, vr, rfl, r1, r2⟩ := r.cons'
    unfold pds at h
    split at h
    · next x xs e1 e2 =>
      cases h
      exact .cons (dp_of ra 6 d x v e1 r1) (dps_of ra e2 r2)
    · cases h
theorem dop_din {L : Lk} : DOp L (rInDp L.K false) (dCmp .din) := by
  intro x y v u A N H Q Qd rx ry ra h k
  unfold dCmp at h
  dsimp only at h
  split at h
  · next ys e =>
    split at h
    · next p ps e1 e2 =>
      obtain ⟨a, vs, rfl, h1, h2⟩ := seqD_rv e ra ry
      refine ⟨p, ps, dp_of ra 6 x p v e1 rx, ?_, shaped_of e1, pds_shaped e2, ?_⟩
      · rcases h1 with h1 | h1
        · exact .inl (.lst h1 (dps_of ra e2 h2))
        · exact .inr (.tup h1 (dps_of ra e2 h2))
      · rw [if_neg Bool.false_ne_true]; exact k.bl ra h
    · exact h.elim
  · exact h.elim
theorem dop_ndin {L : Lk} : DOp L (rInDp L.K true) (dCmp .ndin) := by
  intro x y v u A N H Q Qd rx ry ra h k
  unfold dCmp at h
  dsimp only at h
  split at h
  · next ys e =>
    split at h
    · next p ps e1 e2 =>
      obtain ⟨a, vs, rfl, h1, h2⟩ := seqD_rv e ra ry
      refine ⟨p, ps, dp_of ra 6 x p v e1 rx, ?_, shaped_of e1, pds_shaped e2, ?_⟩
      · rcases h1 with h1 | h1
        · exact .inl (.lst h1 (dps_of ra e2 h2))
        · exact .inr (.tup h1 (dps_of ra e2 h2))
      · rw [if_pos rfl]; exact k.bl ra h
    · exact h.elim
  · exact h.elim
def rSin (neg : Bool) : R2 := fun x y H Q => ∃ (c : Nat) (z : Str), x = .str ⟨#[c]⟩ ∧ y = .str z ∧ Q (.bl (if neg then !decide (c ∈ z.cps.toList) else decide (c ∈ z.cps.toList))) H
theorem op_sin {X : Cx} : OpR X (compareOp .In) (rSin false) := fun pins s σ H x y v u Q I rx ry ⟨c, z, e1, e2, q⟩ => op_in_sign pins s σ H x y v u Q I rx ry ⟨c, z, e1, e2, q⟩
theorem op_nsin {X : Cx} : OpR X (compareOp .NotIn) (rSin true) := fun pins s σ H x y v u Q I rx ry ⟨c, z, e1, e2, q⟩ => op_notIn_sign pins s σ H x y v u Q I rx ry ⟨c, z, e1, e2, q⟩
theorem sign_of {t : Str} {c : Nat} (h : t.cps.toList = [c]) : t = ⟨#[c]⟩ := by
  cases t with
  | mk a => cases a with | mk l => cases (show l = [c] from h); rfl
theorem dop_sin {L : Lk} : DOp L (rSin false) (dCmp .sin) := by
  intro x y v u A N H Q Qd rx ry ra h k
  unfold dCmp at h
  dsimp only at h
  split at h
  · next t z =>
    split at h
    · next c e => exact ⟨c, z, by rw [rv_str.mp rx, sign_of e], rv_str.mp ry, k.bl ra h⟩
    · exact h.elim
  · exact h.elim
theorem dop_nsin {L : Lk} : DOp L (rSin true) (dCmp .nsin) := by
  intro x y v u A N H Q Qd rx ry ra h k
  unfold dCmp at h
  dsimp only at h
  split at h
  · next t z =>
    split at h
    · next c e => exact ⟨c, z, by rw [rv_str.mp rx, sign_of e], rv_str.mp ry, k.bl ra h⟩
    · exact h.elim
  · exact h.elim
end DL

set_option Elab.async false
set_option linter.all false
set_option maxRecDepth 100000
/-! rules of expressions, further -/
namespace DL
open PySem PySem.Spec PyProof.Rows L2
section
variable {L : Lk} {G : Gm} {n : Nat} {X : Cx} {a b c e : Expr} {es : List Expr} {ia ib ic ie : IE} {ies : List IE} {pos : Pos} {x : Str}
theorem rs_get {K : PySem.W.Frag} {H : Hp} {δ : DSt} {σ : L2.St} (r : RS K A N H δ σ) {i : Nat} {d : D} (e : δ[i]? = some (some d)) : ∃ v, σ[i]? = some (some v) ∧ RV K A N H d v := r.2 i d e
theorem de_var {i : Nat} (hN : X.N[i]? = some x) (hv : Vis X.env.scope x) (hd : (x == ("__debug__" : Str)) = false) (hcd : (x == ("__classdict__" : Str)) = false) : DE L G n X (.Name x pos) (.var i) := fun C W tk =>
  pe_imp (pe_var hN hv hd hcd) fun σ H Q ⟨N, δ, A, Qd, Ed, rs, ra, h, hq, hx⟩ => by
    simp only [wpE] at h
    split at h
    · next d e =>
      obtain ⟨v, e1, r⟩ := rs_get rs e
      exact ⟨v, e1, Kt.here hq ra r h⟩
    · exact h.elim
theorem de_cst {v : V} {d : D} (h : PE X e (tC v)) (r : ∀ K A N H, RV K A N H d v) : DE L G n X e (.cst d) := fun C W tk =>
  pe_imp h fun σ H Q ⟨N, δ, A, Qd, Ed, rs, ra, h, hq, hx⟩ => Kt.here hq ra (r _ _ _ _) h
theorem de_int {i : Int} {j : Nat} : DE L G n X (.Constant (.int i) j pos) (.cst (.int i)) := de_cst pe_int fun _ _ _ _ => rv_int.mpr rfl
theorem de_bl {i : Bool} {j : Nat} : DE L G n X (.Constant (.bool i) j pos) (.cst (.bl i)) := de_cst pe_bl fun _ _ _ _ => rv_bl.mpr rfl
theorem de_str {i : Str} {j : Nat} : DE L G n X (.Constant (.str i) j pos) (.cst (.str i)) := de_cst pe_str fun _ _ _ _ => rv_str.mpr rfl
theorem de_non {j : Nat} : DE L G n X (.Constant .none j pos) (.cst .non) := de_cst pe_non fun _ _ _ _ => rv_non.mpr rfl
theorem de_gint {i : Int} {t : Tok} (hg : Gl X x) (hm : X.mg x = some (.int i t)) (hd : (x == ("__debug__" : Str)) = false) : DE L G n X (.Name x pos) (.cst (.int i)) :=
  de_cst (pe_glob (v := .int i) hg hm ⟨t, rfl⟩ hd) fun _ _ _ _ => rv_int.mpr rfl
theorem de_gstr {i : Str} {t : Tok} (hg : Gl X x) (hm : X.mg x = some (.str i t)) (hd : (x == ("__debug__" : Str)) = false) : DE L G n X (.Name x pos) (.cst (.str i)) :=
  de_cst (pe_glob (v := .str i) hg hm ⟨t, rfl⟩ hd) fun _ _ _ _ => rv_str.mpr rfl

/-! ### lists of arguments, displays -/
theorem da_nil : DA L G n X [] [] := fun C W tk => pa_imp pa_nil fun σ H Q ⟨N, δ, A, Qd, Ed, rs, ra, h, hq, hx⟩ => hq [] A [] H .nil ra (Ext.refl _ _) h
theorem da_cons (ha : DE L G n X e ie) (hr : DA L G n X es ies) (hs : starEach (e :: es) X.env = (false, eval e X.env) :: starEach es X.env) : DA L G n X (e :: es) (ie :: ies) := fun C W tk =>
  pa_imp (pa_cons (ha C W tk) (hr C W tk) hs) fun σ H Q ⟨N, δ, A, Qd, Ed, rs, ra, h, hq, hx⟩ =>
    LE.use rs ra h (fun d A1 v1 H1 rv1 ra1 ex1 rs1 q1 => LAs.use rs1 ra1 q1 (fun ds A2 vs H2 rv2 ra2 ex2 rs2 q2 =>
      hq (d :: ds) A2 (v1 :: vs) H2 (.cons (RV.stay (ex2.stay ra1) _ _ rv1) rv2) ra2 (ex1.trans ex2) q2) (XW.ext hx ex1)) hx
theorem de_tup {k : Nat} (h : DA L G n X es ies) : DE L G n X (.Tuple es k pos) (.tup ies) := fun C W tk =>
  pe_imp (pe_tup (h C W tk)) fun σ H Q ⟨N, δ, A, Qd, Ed, rs, ra, h, hq, hx⟩ =>
    LAs.use rs ra h (fun ds A1 vs H1 rv1 ra1 ex1 rs1 q1 => ⟨by rw [← rv1.length]; exact q1.1, Kt.tup (fun d A' v' H' r1 r2 e q => hq d A' v' H' r1 r2 (ex1.trans e) q) ra1 rv1 q1.2⟩) hx
theorem de_lst (h : DA L G n X es ies) : DE L G n X (.List es pos) (.lst ies) := fun C W tk =>
  pe_imp (pe_lst (h C W tk)) fun σ H Q ⟨N, δ, A, Qd, Ed, rs, ra, h, hq, hx⟩ =>
    LAs.use rs ra h (fun ds A1 vs H1 rv1 ra1 ex1 rs1 q1 => ⟨by rw [← rv1.length]; exact q1.1, Kt.lst (fun d A' v' H' r1 r2 e q => hq d A' v' H' r1 r2 (ex1.trans e) q) ra1 rv1 q1.2⟩) hx

/-! ### unary, is, and, or, not -/
theorem de_neg (ha : DE L G n X a ia) : DE L G n X (.UnaryOp .USub a pos) (.neg ia) := fun C W tk =>
  pe_imp (pe_un un_neg (ha C W tk)) fun σ H Q ⟨N, δ, A, Qd, Ed, rs, ra, h, hq, hx⟩ =>
    LE.use rs ra h (fun d A1 v1 H1 rv1 ra1 ex1 rs1 q1 => by
      cases d with
      | int i => exact ⟨i, rv_int.mp rv1, hq _ A1 _ H1 (rv_int.mpr rfl) ra1 ex1 q1⟩
      | _ => exact q1.elim) hx
theorem rv_isn {K : PySem.W.Frag} {H : Hp} {d : D} {v : V} (r : RV K A N H d v) : decide (v = .non) = isNonD d := by
  cases d with
  | non => rw [rv_non.mp r]; rfl
  | bl b => rw [rv_bl.mp r]; rfl
  | int b => rw [rv_int.mp r]; rfl
  | str b => rw [rv_str.mp r]; rfl
  | ref b => rw [rv_ref.mp r]; rfl
  | tup b => obtain ⟨_, _, e, _⟩ := rv_tup.mp r; rw [e]; rfl
  | rol b => obtain ⟨_, _, e, _⟩ := rv_rol.mp r; rw [e]; rfl
  | fl b => obtain ⟨_, _, e, _⟩ := rv_fl.mp r; rw [e]; rfl
  | rod _ b => obtain ⟨_, _, e, _⟩ := rv_rod.mp r; rw [e]; rfl
  | ptp b => obtain ⟨_, _, _, e, _⟩ := rv_ptp.mp r; rw [e]; rfl
theorem de_isn {j : Nat} {p : Pos} (ha : DE L G n X a ia) : DE L G n X (.Compare a [.Is] [.Constant .none j p] pos) (.isn false ia) := fun C W tk =>
  pe_imp (pe_cmp (pc_isN (ha C W tk)) rfl) fun σ H Q ⟨N, δ, A, Qd, Ed, rs, ra, h, hq, hx⟩ =>
    LE.use rs ra h (fun d A1 v1 H1 rv1 ra1 ex1 rs1 q1 => by
      show Q (.bl (decide (v1 = .non))) H1
      rw [rv_isn rv1]
      exact hq (.bl _) A1 _ H1 (rv_bl.mpr rfl) ra1 ex1 q1) hx
theorem de_notn {j : Nat} {p : Pos} (ha : DE L G n X a ia) : DE L G n X (.Compare a [.IsNot] [.Constant .none j p] pos) (.isn true ia) := fun C W tk =>
  pe_imp (pe_cmp (pc_notN (ha C W tk)) rfl) fun σ H Q ⟨N, δ, A, Qd, Ed, rs, ra, h, hq, hx⟩ =>
    LE.use rs ra h (fun d A1 v1 H1 rv1 ra1 ex1 rs1 q1 => by
      show Q (.bl (!decide (v1 = .non))) H1
      rw [rv_isn rv1]
      exact hq (.bl _) A1 _ H1 (rv_bl.mpr rfl) ra1 ex1 q1) hx
theorem de_isb (ha : DE L G n X a ia) (hb : DE L G n X b ib) : DE L G n X (.Compare a [.Is] [b] pos) (.isb false ia ib) := fun C W tk =>
  pe_imp (pe_cmpR op_isBl (ha C W tk) (hb C W tk) (nomark _)) fun σ H Q ⟨N, δ, A, Qd, Ed, rs, ra, h, hq, hx⟩ =>
    LE.use rs ra h (fun x A1 v1 H1 rv1 ra1 ex1 rs1 q1 => LE.use rs1 ra1 q1 (fun y A2 v2 H2 rv2 ra2 ex2 rs2 q2 => by
      have rv1' := RV.stay (ex2.stay ra1) _ _ rv1
      cases x with
      | bl k =>
        cases y with
        | bl l => exact ⟨k, l, rv_bl.mp rv1', rv_bl.mp rv2, hq _ A2 _ H2 (rv_bl.mpr rfl) ra2 (ex1.trans ex2) q2⟩
        | _ => exact q2.elim
      | _ => exact q2.elim) (XW.ext hx ex1)) hx
theorem de_isnb (ha : DE L G n X a ia) (hb : DE L G n X b ib) : DE L G n X (.Compare a [.IsNot] [b] pos) (.isb true ia ib) := fun C W tk =>
  pe_imp (pe_cmpR op_notBl (ha C W tk) (hb C W tk) (nomark _)) fun σ H Q ⟨N, δ, A, Qd, Ed, rs, ra, h, hq, hx⟩ =>
    LE.use rs ra h (fun x A1 v1 H1 rv1 ra1 ex1 rs1 q1 => LE.use rs1 ra1 q1 (fun y A2 v2 H2 rv2 ra2 ex2 rs2 q2 => by
      have rv1' := RV.stay (ex2.stay ra1) _ _ rv1
      cases x with
      | bl k =>
        cases y with
        | bl l => exact ⟨k, l, rv_bl.mp rv1', rv_bl.mp rv2, hq _ A2 _ H2 (rv_bl.mpr rfl) ra2 (ex1.trans ex2) q2⟩
        | _ => exact q2.elim
      | _ => exact q2.elim) (XW.ext hx ex1)) hx
variable {op : BoolOp} {rest : List Expr}
theorem de_one (ha : DE L G n X a ia) : DE L G n X (.BoolOp op [a] pos) ia := fun C W tk => pe_one (ha C W tk)
theorem de_and (ha : DE L G n X a ia) (hb : DE L G n X (.BoolOp .And (b :: rest) pos) ib) : DE L G n X (.BoolOp .And (a :: b :: rest) pos) (.andv ia ib) := fun C W tk =>
  pe_imp (pe_and (ha C W tk) (hb C W tk)) fun σ H Q ⟨N, δ, A, Qd, Ed, rs, ra, h, hq, hx⟩ =>
    LE.use rs ra h (fun d A1 v1 H1 rv1 ra1 ex1 rs1 q1 => by
      cases d with
      | bl i =>
        refine ⟨i, rv_bl.mp rv1, ?_⟩
        have q1 : (if i = true then wpE (callN G n) G ib δ A1 Qd Ed else Qd (.bl false) A1) := q1
        cases i with
        | true => rw [if_pos rfl] at q1 ⊢; exact LE.use rs1 ra1 q1 (fun d A' v' H' r1 r2 e _ q => hq d A' v' H' r1 r2 (ex1.trans e) q) (XW.ext hx ex1)
        | false => rw [if_neg Bool.false_ne_true] at q1 ⊢; exact hq _ A1 _ H1 (rv_bl.mpr rfl) ra1 ex1 q1
      | _ => exact (show False from q1).elim) hx
theorem de_or (ha : DE L G n X a ia) (hb : DE L G n X (.BoolOp .Or (b :: rest) pos) ib) : DE L G n X (.BoolOp .Or (a :: b :: rest) pos) (.orv ia ib) := fun C W tk =>
  pe_imp (pe_or (ha C W tk) (hb C W tk)) fun σ H Q ⟨N, δ, A, Qd, Ed, rs, ra, h, hq, hx⟩ =>
    LE.use rs ra h (fun d A1 v1 H1 rv1 ra1 ex1 rs1 q1 => by
      cases d with
      | bl i =>
        refine ⟨i, rv_bl.mp rv1, ?_⟩
        have q1 : (if i = true then Qd (.bl true) A1 else wpE (callN G n) G ib δ A1 Qd Ed) := q1
        cases i with
        | false => rw [if_neg Bool.false_ne_true] at q1 ⊢; exact LE.use rs1 ra1 q1 (fun d A' v' H' r1 r2 e _ q => hq d A' v' H' r1 r2 (ex1.trans e) q) (XW.ext hx ex1)
        | true => rw [if_pos rfl] at q1 ⊢; exact hq _ A1 _ H1 (rv_bl.mpr rfl) ra1 ex1 q1
      | _ => exact (show False from q1).elim) hx

/-! ### tests -/
variable {it iu : IT}
/-- a thing told no more -/
theorem fz_of {A : AH} {N : Addr → Prop} {H : Hp} {d : D} {v : V} {Q : VK} {Qd : QE} (h : dFz d A Qd) (ra : RA L A N H) (r : RV L.K A N H d v) (k : ∀ d A' v H', RV L.K A' N H' d v → RA L A' N H' → Ext A H A' H' → Qd d A' → Q v H') : Q v H := by
  have same : Qd d A → Q v H := fun q => k d A v H r ra (Ext.refl _ _) q
  cases d with
  | ref p =>
    rw [rv_ref.mp r] at same ⊢
    unfold dFz at h
    dsimp only at h
    have ex : Ext A H (del A p) H := (Ext.refl A H).sub .del
    split at h
    · next xs q => exact k _ _ _ H (fl_of q ra) (ra.sub .del) ex h
    · next kvs q => exact k _ _ _ H (rod_of q ra) (ra.sub .del) ex h
    · exact same h
  | _ => exact same h
theorem de_fz (ha : DE L G n X a ia) : DE L G n X a (.fz ia) := fun C W tk =>
  pe_imp (ha C W tk) fun σ H Q ⟨N, δ, A, Qd, Ed, rs, ra, h, hq, hx⟩ =>
    ⟨N, δ, A, _, Ed, rs, ra, h, fun d A1 v1 H1 rv1 ra1 ex1 q1 => fz_of q1 ra1 rv1 fun d A' v H' r1 r2 e q => hq d A' v H' r1 r2 (ex1.trans e) q, hx⟩
theorem tru_of {A : AH} {H : Hp} {d : D} {v : V} {Q : Bool → AH → Prop} (h : dTru d A Q) (ra : RA L A N H) (r : RV L.K A N H d v) : ∃ k, TruV L.K v H k ∧ Q k A := by
  cases d with
  | non => rw [rv_non.mp r]; exact ⟨_, rfl, h⟩
  | bl b => rw [rv_bl.mp r]; exact ⟨_, rfl, h⟩
  | int b => rw [rv_int.mp r]; exact ⟨_, rfl, h⟩
  | str b => rw [rv_str.mp r]; exact ⟨_, ⟨h.1, rfl⟩, h.2⟩
  | tup xs =>
    obtain ⟨p, vs, e, h1, h2⟩ := rv_tup.mp r
    rw [e]
    refine ⟨_, .inr (.inl ⟨vs, h1, rfl⟩), ?_⟩
    have q : Q (!xs.isEmpty) A := h
    have e2 : vs.isEmpty = xs.isEmpty := by
      have := h2.length
      cases xs <;> cases vs <;> first | rfl | (simp at this)
    rw [e2]; exact q
  | rol xs =>
    obtain ⟨p, vs, e, h1, h2⟩ := rv_rol.mp r
    rw [e]
    refine ⟨_, .inl ⟨vs, h1.seq, rfl⟩, ?_⟩
    have q : Q (!xs.isEmpty) A := h
    have e2 : vs.isEmpty = xs.isEmpty := by
      have := h2.length
      cases xs <;> cases vs <;> first | rfl | (simp at this)
    rw [e2]; exact q
  | fl xs =>
    obtain ⟨p, vs, e, h1, h2⟩ := rv_fl.mp r
    rw [e]
    refine ⟨_, .inl ⟨vs, .inl h1.1, rfl⟩, ?_⟩
    have q : Q (!xs.isEmpty) A := h
    have e2 : vs.isEmpty = xs.isEmpty := by
      have := h2.length
      cases xs <;> cases vs <;> first | rfl | (simp at this)
    rw [e2]; exact q
  | rod _ _ => exact (show False from h).elim
  | ptp _ => exact (show False from h).elim
  | ref p =>
    rw [rv_ref.mp r]
    unfold dTru at h
    dsimp only at h
    split at h
    · next xs q =>
      obtain ⟨vs, h1, h2⟩ := ra p _ q
      refine ⟨_, .inl ⟨vs, SqL.of h1, rfl⟩, ?_⟩
      have e2 : vs.isEmpty = xs.isEmpty := by
        have := h2.length
        cases xs <;> cases vs <;> first | rfl | (simp at this)
      rw [e2]; exact h
    · next kvs q =>
      obtain ⟨ws, h1, h2, h3⟩ := ra p _ q
      refine ⟨_, .inr (.inr ⟨ws, h1, rfl⟩), ?_⟩
      have e2 : ws.isEmpty = kvs.isEmpty := by
        have := congrArg List.length h2
        cases kvs <;> cases ws <;> first | rfl | (simp at this)
      rw [e2]; exact h
    · exact h.elim
/-- an expression's truth -/
theorem dt_val (ha : DE L G n X a ia) (he : ∀ whole, isTrue a X.env whole = (do let v ← whole; standAt a.pos; holding [v] (truthy v))) : DT L G n X a (.val ia) := fun C W tk =>
  pt_imp (pt_truth (ha C W tk) he) fun σ H Q ⟨N, δ, A, Qd, Ed, rs, ra, h, hq, hx⟩ =>
    LE.use rs ra h (fun d A1 v1 H1 rv1 ra1 ex1 rs1 q1 => by
      obtain ⟨k, h1, h2⟩ := tru_of q1 ra1 rv1
      exact ⟨k, by rw [C.K]; exact h1, hq k A1 H1 ra1 ex1 h2⟩) hx
theorem de_not (ha : DE L G n X a ia) : DE L G n X (.UnaryOp .Not a pos) (.notv ia) := fun C W tk =>
  pe_imp (pe_notT (ha C W tk)) fun σ H Q ⟨N, δ, A, Qd, Ed, rs, ra, h, hq, hx⟩ =>
    LE.use rs ra h (fun d A1 v1 H1 rv1 ra1 ex1 rs1 q1 => by
      obtain ⟨k, h1, h2⟩ := tru_of q1 ra1 rv1
      exact ⟨k, by rw [C.K]; exact h1, hq _ A1 _ H1 (rv_bl.mpr rfl) ra1 ex1 h2⟩) hx
/-- a comparison tells a bool -/
theorem dCmp_bl {o : CO} {x y : D} {A : AH} {Q : QE} (h : dCmp o x y A Q) : dCmp o x y A (fun d A' => ∃ k, d = .bl k ∧ Q (.bl k) A') := by
  unfold dCmp at *
  cases o <;> dsimp only at * <;> split at h <;> first
    | exact h.elim
    | exact ⟨_, rfl, h⟩
    | exact ⟨h.1, h.2.1, _, rfl, h.2.2⟩
    | (split at h <;> first | exact h.elim | exact ⟨_, rfl, h⟩)
theorem dt_cmp {op : CmpOp} {o : CO} {r : R2} (ho : OpR X (compareOp op) r) (hr : X.K = L.K → DOp L r (dCmp o)) (hm : behindInMarks op b = false) (ha : DE L G n X a ia) (hb : DE L G n X b ib) : DT L G n X (.Compare a [op] [b] pos) (.val (.cmp o ia ib)) := fun C W tk =>
  pt_imp (pt_cmpR ho (ha C W tk) (hb C W tk) hm) fun σ H Q ⟨N, δ, A, Qd, Ed, rs, ra, h, hq, hx⟩ =>
    LE.use rs ra h (fun x A1 v1 H1 rv1 ra1 ex1 rs1 q1 => LE.use rs1 ra1 q1 (fun y A2 v2 H2 rv2 ra2 ex2 rs2 q2 =>
      hr C.K x y v1 v2 A2 N H2 _ _ (RV.stay (ex2.stay ra1) _ _ rv1) rv2 ra2 (dCmp_bl q2) fun d A' v' H' r1 r2 e q => by
        obtain ⟨k, rfl, q⟩ := q
        exact ⟨k, rv_bl.mp r1, hq k A' H' r2 ((ex1.trans ex2).trans e) q⟩) (XW.ext hx ex1)) hx
theorem dt_isn {j : Nat} {p : Pos} (ha : DE L G n X a ia) : DT L G n X (.Compare a [.Is] [.Constant .none j p] pos) (.val (.isn false ia)) := fun C W tk =>
  pt_imp (pt_cmp (pc_isN (ha C W tk)) rfl) fun σ H Q ⟨N, δ, A, Qd, Ed, rs, ra, h, hq, hx⟩ =>
    LE.use rs ra h (fun d A1 v1 H1 rv1 ra1 ex1 rs1 q1 => ⟨_, rfl, by rw [rv_isn rv1]; exact hq _ A1 H1 ra1 ex1 q1⟩) hx
theorem dt_notn {j : Nat} {p : Pos} (ha : DE L G n X a ia) : DT L G n X (.Compare a [.IsNot] [.Constant .none j p] pos) (.val (.isn true ia)) := fun C W tk =>
  pt_imp (pt_cmp (pc_notN (ha C W tk)) rfl) fun σ H Q ⟨N, δ, A, Qd, Ed, rs, ra, h, hq, hx⟩ =>
    LE.use rs ra h (fun d A1 v1 H1 rv1 ra1 ex1 rs1 q1 => ⟨_, rfl, by rw [rv_isn rv1]; exact hq _ A1 H1 ra1 ex1 q1⟩) hx
theorem dt_isb (ha : DE L G n X a ia) (hb : DE L G n X b ib) : DT L G n X (.Compare a [.Is] [b] pos) (.val (.isb false ia ib)) := fun C W tk =>
  pt_imp (pt_cmpR op_isBl (ha C W tk) (hb C W tk) (nomark _)) fun σ H Q ⟨N, δ, A, Qd, Ed, rs, ra, h, hq, hx⟩ =>
    LE.use rs ra h (fun x A1 v1 H1 rv1 ra1 ex1 rs1 q1 => LE.use rs1 ra1 q1 (fun y A2 v2 H2 rv2 ra2 ex2 rs2 q2 => by
      have rv1' := RV.stay (ex2.stay ra1) _ _ rv1
      cases x with
      | bl k =>
        cases y with
        | bl l => exact ⟨k, l, rv_bl.mp rv1', rv_bl.mp rv2, _, rfl, hq _ A2 H2 ra2 (ex1.trans ex2) q2⟩
        | _ => exact q2.elim
      | _ => exact q2.elim) (XW.ext hx ex1)) hx
theorem dt_isnb (ha : DE L G n X a ia) (hb : DE L G n X b ib) : DT L G n X (.Compare a [.IsNot] [b] pos) (.val (.isb true ia ib)) := fun C W tk =>
  pt_imp (pt_cmpR op_notBl (ha C W tk) (hb C W tk) (nomark _)) fun σ H Q ⟨N, δ, A, Qd, Ed, rs, ra, h, hq, hx⟩ =>
    LE.use rs ra h (fun x A1 v1 H1 rv1 ra1 ex1 rs1 q1 => LE.use rs1 ra1 q1 (fun y A2 v2 H2 rv2 ra2 ex2 rs2 q2 => by
      have rv1' := RV.stay (ex2.stay ra1) _ _ rv1
      cases x with
      | bl k =>
        cases y with
        | bl l => exact ⟨k, l, rv_bl.mp rv1', rv_bl.mp rv2, _, rfl, hq _ A2 H2 ra2 (ex1.trans ex2) q2⟩
        | _ => exact q2.elim
      | _ => exact q2.elim) (XW.ext hx ex1)) hx
/-- a op b op' c -/
theorem de_chn {op op' : CmpOp} {o p : CO} {r r' : R2} (ho : OpR X (compareOp op) r) (ho' : OpR X (compareOp op') r') (hr : X.K = L.K → DOp L r (dCmp o)) (hr' : X.K = L.K → DOp L r' (dCmp p)) (hm : lastMarks [op, op'] [b, c] = false)
    (ha : DE L G n X a ia) (hb : DE L G n X b ib) (hc : DE L G n X c ic) : DE L G n X (.Compare a [op, op'] [b, c] pos) (.chn o p ia ib ic) := fun C W tk =>
  pe_imp (pe_chain ho ho' (ha C W tk) (hb C W tk) (hc C W tk) hm) fun σ H Q ⟨N, δ, A, Qd, Ed, rs, ra, h, hq, hx⟩ =>
    LE.use rs ra h (fun x A1 v1 H1 rv1 ra1 ex1 rs1 q1 => LE.use rs1 ra1 q1 (fun y A2 v2 H2 rv2 ra2 ex2 rs2 q2 =>
      hr C.K x y v1 v2 A2 N H2 _ _ (RV.stay (ex2.stay ra1) _ _ rv1) rv2 ra2 (dCmp_bl q2) fun d A3 v3 H3 r1 r2 ex3 q => by
        obtain ⟨k, rfl, q⟩ := q
        refine ⟨k, rv_bl.mp r1, ?_⟩
        have e3 := (ex1.trans ex2).trans ex3
        have q : (if k = true then wpE (callN G n) G ic δ A3 (fun z A4 => dCmp p y z A4 Qd) Ed else Qd (.bl false) A3) := q
        have rs3 := rs2.stay (ex3.stay ra2)
        have rv3 := RV.stay (ex3.stay ra2) _ _ rv2
        cases k with
        | true =>
          rw [if_pos rfl] at q ⊢
          exact LE.use rs3 r2 q (fun z A4 v4 H4 rv4 ra4 ex4 rs4 q4 => hr' C.K y z v2 v4 A4 N H4 Q Qd (RV.stay (ex4.stay r2) _ _ rv3) rv4 ra4 q4 fun d A' v' H' r1 r2 e q => hq d A' v' H' r1 r2 ((e3.trans ex4).trans e) q) (XW.ext hx e3)
        | false => rw [if_neg Bool.false_ne_true] at q ⊢; exact hq _ A3 _ H3 (rv_bl.mpr rfl) r2 e3 q) (XW.ext hx ex1)) hx
theorem dt_chn {op op' : CmpOp} {o p : CO} {r r' : R2} (ho : OpR X (compareOp op) r) (ho' : OpR X (compareOp op') r') (hr : X.K = L.K → DOp L r (dCmp o)) (hr' : X.K = L.K → DOp L r' (dCmp p)) (hm : lastMarks [op, op'] [b, c] = false)
    (ha : DE L G n X a ia) (hb : DE L G n X b ib) (hc : DE L G n X c ic) : DT L G n X (.Compare a [op, op'] [b, c] pos) (.val (.chn o p ia ib ic)) := fun C W tk =>
  pt_imp (pt_chain ho ho' (ha C W tk) (hb C W tk) (hc C W tk) hm) fun σ H Q ⟨N, δ, A, Qd, Ed, rs, ra, h, hq, hx⟩ =>
    LE.use rs ra h (fun x A1 v1 H1 rv1 ra1 ex1 rs1 q1 => LE.use rs1 ra1 q1 (fun y A2 v2 H2 rv2 ra2 ex2 rs2 q2 =>
      hr C.K x y v1 v2 A2 N H2 _ _ (RV.stay (ex2.stay ra1) _ _ rv1) rv2 ra2 (dCmp_bl q2) fun d A3 v3 H3 r1 r2 ex3 q => by
        obtain ⟨k, rfl, q⟩ := q
        refine ⟨k, rv_bl.mp r1, ?_⟩
        have e3 := (ex1.trans ex2).trans ex3
        have q : (if k = true then wpE (callN G n) G ic δ A3 (fun z A4 => dCmp p y z A4 (fun x A1 => dTru x A1 Qd)) Ed else Qd false A3) := q
        have rs3 := rs2.stay (ex3.stay ra2)
        have rv3 := RV.stay (ex3.stay ra2) _ _ rv2
        cases k with
        | true =>
          rw [if_pos rfl] at q ⊢
          exact LE.use rs3 r2 q (fun z A4 v4 H4 rv4 ra4 ex4 rs4 q4 => hr' C.K y z v2 v4 A4 N H4 _ _ (RV.stay (ex4.stay r2) _ _ rv3) rv4 ra4 (dCmp_bl q4) fun d A' v' H' r1 r2 e q => by
            obtain ⟨k, rfl, q⟩ := q
            exact ⟨k, rv_bl.mp r1, hq k A' H' r2 ((e3.trans ex4).trans e) q⟩) (XW.ext hx e3)
        | false => rw [if_neg Bool.false_ne_true] at q ⊢; exact ⟨false, rfl, hq false A3 H3 r2 e3 q⟩) (XW.ext hx ex1)) hx
/-- and, or, not -/
theorem dw_and1 (ha : DT L G n X a it) : DW L G n X (.BoolOp .And [a] pos) it := fun C W tk => pw_and1 (ha C W tk)
theorem dw_or1 (ha : DT L G n X a it) : DW L G n X (.BoolOp .Or [a] pos) it := fun C W tk => pw_or1 (ha C W tk)
theorem dw_and (ha : DT L G n X a it) (hb : DW L G n X (.BoolOp .And (b :: rest) pos) iu) : DW L G n X (.BoolOp .And (a :: b :: rest) pos) (.and it iu) := fun C W tk =>
  pw_imp (pw_and (ha C W tk) (hb C W tk)) fun σ H Q ⟨N, δ, A, Qd, Ed, rs, ra, h, hq, hx⟩ =>
    LT.use rs ra h (fun k A1 H1 ra1 ex1 rs1 q1 => by
      cases k with
      | true => rw [if_pos rfl] at q1 ⊢; exact LT.use rs1 ra1 q1 (fun d A' H' r2 e _ q => hq d A' H' r2 (ex1.trans e) q) (XW.ext hx ex1)
      | false => rw [if_neg Bool.false_ne_true] at q1 ⊢; exact hq _ A1 H1 ra1 ex1 q1) hx
theorem dw_or (ha : DT L G n X a it) (hb : DW L G n X (.BoolOp .Or (b :: rest) pos) iu) : DW L G n X (.BoolOp .Or (a :: b :: rest) pos) (.or it iu) := fun C W tk =>
  pw_imp (pw_or (ha C W tk) (hb C W tk)) fun σ H Q ⟨N, δ, A, Qd, Ed, rs, ra, h, hq, hx⟩ =>
    LT.use rs ra h (fun k A1 H1 ra1 ex1 rs1 q1 => by
      cases k with
      | false => rw [if_neg Bool.false_ne_true] at q1 ⊢; exact LT.use rs1 ra1 q1 (fun d A' H' r2 e _ q => hq d A' H' r2 (ex1.trans e) q) (XW.ext hx ex1)
      | true => rw [if_pos rfl] at q1 ⊢; exact hq _ A1 H1 ra1 ex1 q1) hx
theorem dt_w (h : DW L G n X a it) : DT L G n X a it := fun C W tk => (h C W tk).pt
theorem dt_not (ha : DT L G n X a it) : DT L G n X (.UnaryOp .Not a pos) (.not it) := fun C W tk =>
  pt_imp (pt_not (ha C W tk)) fun σ H Q ⟨N, δ, A, Qd, Ed, rs, ra, h, hq, hx⟩ =>
    LT.use rs ra h (fun k A1 H1 ra1 ex1 rs1 q1 => hq _ A1 H1 ra1 ex1 q1) hx
theorem de_ite (ht : DT L G n X c it) (ha : DE L G n X a ia) (hb : DE L G n X b ib) : DE L G n X (.IfExp c a b pos) (.ite it ia ib) := fun C W tk =>
  pe_imp (pe_ifExp (ht C W tk) (ha C W tk) (hb C W tk)) fun σ H Q ⟨N, δ, A, Qd, Ed, rs, ra, h, hq, hx⟩ =>
    LT.use rs ra h (fun k A1 H1 ra1 ex1 rs1 q1 => by
      cases k with
      | true => rw [if_pos rfl] at q1 ⊢; exact LE.use rs1 ra1 q1 (fun d A' v H' r1 r2 e _ q => hq d A' v H' r1 r2 (ex1.trans e) q) (XW.ext hx ex1)
      | false => rw [if_neg Bool.false_ne_true] at q1 ⊢; exact LE.use rs1 ra1 q1 (fun d A' v H' r1 r2 e _ q => hq d A' v H' r1 r2 (ex1.trans e) q) (XW.ext hx ex1)) hx
end
end DL

set_option Elab.async false
set_option linter.all false
set_option maxRecDepth 100000
/-! sorted of a tuple -/
namespace DL
open PySem PySem.Spec PyProof.Rows L2
section
variable {prog : Program} {w : World} {A : Around} {E : Value → Shared → Prop} {s : Shared}
/-- the heap behind a collecting: a new list of what came -/
def colHeap (g : Heap) (us : List Value) : Heap := Heap.update (g.push (seqObj "list" #[] 0)) g.objs.size (Obj.mapSeq fun z => z ++ us.toArray)
theorem collectT {t : Addr} {us : List Value} {R : List Value → Shared → Prop} (ht : IsTup s.heap t us.toArray) (hz : us.length ≤ sizeLine) (q : R us { s with heap := colHeap s.heap us }) :
    wpAny (model prog w) A (collect (.ref t)) R E s := by
  obtain ⟨ob, h1, h2, m, h3⟩ := ht
  have h4 : (s.heap.push (seqObj "list" #[] 0)).get? t = some ob := Heap.get?_push_of_some _ h1
  have h5 : (s.heap.push (seqObj "list" #[] 0)).get? s.heap.objs.size = some (seqObj "list" #[] 0) := Heap.get?_push_size _ rfl
  unfold collect
  refine wpAny_bind (wpAny_runValue (codeAny_builtin entry_proto_collect' ?_))
  refine wpAny_bind (m := newList []) (wpAny_newList (wpAny_pure ⟨Code.quiet_builtin _ (by decide +kernel), codeAny_builtin entry_list_iadd' ?_⟩))
  show wpAny _ _ (Builtin.List.listExtendWith (.ref s.heap.objs.size) (.ref t) (.ref s.heap.objs.size)) _ _ _
  unfold Builtin.List.listExtendWith
  refine wpAny_bind (wpAny_typeOf (T := "tuple") ⟨ob, h4, h2⟩ ?_)
  rw [if_pos (by rw [show (Value.type "tuple" == Value.type "tuple") = true from by rfl, Bool.or_true])]
  refine wpAny_bind (listItems_at h4 h3 (wpAny_bind (listItems_at h5 rfl ?_)))
  rw [if_neg (by simp)]
  refine wpAny_bind (listUpdate_at h5 rfl (wpAny_pure ?_) (Nat.zero_le _) ?_)
  · show wpAny (model prog w) A (load s.heap.objs.size >>= fun o => match o.data with | .seq xs _ => pure xs.toList | _ => unsupported "internal:collect") R E { s with heap := colHeap s.heap us }
    refine wpAny_bind (wpAny_load (get?_update_seq h5 _) ?_)
    have e : ((#[] : Array Value) ++ us.toArray).toList = us := by simp
    show wpAny _ _ (pure ((#[] : Array Value) ++ us.toArray).toList) R E _
    rw [e]
    exact wpAny_pure q
  · show ((#[] : Array Value) ++ us.toArray).size ≤ sizeLine + 1
    rw [Array.size_append, List.size_toArray]
    show 0 + us.length ≤ _
    omega
/-- sorted of what can be collected -/
theorem sortedC {t : Addr} {us : List Value} {ltv : Value → Value → Bool} {Q : Value → Shared → Prop} (O : SrtO.Swo ltv) (hz : us.length ≤ sizeLine)
    (col : ∀ (A : Around) (E : Value → Shared → Prop) (R : List Value → Shared → Prop), R us { s with heap := colHeap s.heap us } → wpAny (model prog w) A (collect (.ref t)) R E s)
    (hS : 2 ≤ us.length → ∀ (g : Heap) (a : Addr), g.get? a = some (seqObj "list" us.toArray 0) → (∀ b o, s.heap.get? b = some o → b ≠ a ∧ g.get? b = some o) → SrtO.SortableO prog w A.in1.in1 { s with heap := g } a us ltv)
    (q : ∀ out : List Value, SrtO.Srtd ltv out → SrtO.Stb ltv out us → Q (.ref (s.heap.objs.size + 1)) { s with heap := sortedAll s.heap us out.toArray }) :
    wpAny (model prog w) A (call (.builtin "sorted") [.ref t]) Q E s := by
  have sz : (colHeap s.heap us).objs.size = s.heap.objs.size + 1 := by
    unfold colHeap
    rw [Heap.size_update, Heap.size_push]
  have at1 : ((colHeap s.heap us).push (seqObj "list" us.toArray 0)).get? (s.heap.objs.size + 1) = some (seqObj "list" us.toArray 0) := by
    rw [← sz]; exact Heap.get?_push_size _ rfl
  have old : ∀ b o, s.heap.get? b = some o → b ≠ s.heap.objs.size + 1 ∧ ((colHeap s.heap us).push (seqObj "list" us.toArray 0)).get? b = some o := fun b o e => by
    have lt := Heap.lt_size e
    refine ⟨Nat.ne_of_lt (Nat.lt_succ_of_lt lt), Heap.get?_push_of_some _ ?_⟩
    unfold colHeap
    rw [Heap.get?_update_ne _ _ _ _ (Nat.ne_of_lt lt)]
    exact Heap.get?_push_of_some _ e
  refine Calls.call_function_entry kind_sorted plain_sorted entry_sorted (args_sorted1 _) ?_
  unfold Builtin.«sorted»
  refine wpAny_bind (m := checkCount "sorted" 1 1 _) (wpAny_pure (wpAny_bind (col _ _ _ (wpAny_bind (wpAny_newList ?_ hz)))))
  show wpAny (model prog w) A.in1 _ _ _ { s with heap := (colHeap s.heap us).push (seqObj "list" us.toArray 0) }
  rw [sz]
  refine wpAny_bind (wpAny_holding (wpAny_call_entry slot_list_sort ⟨_, at1, rfl⟩ entry_list_sort (SrtO.list_sort_ord O at1 hz (fun h2 => hS h2 _ _ at1 old) fun out h1 h2 => ⟨_, rfl, ?_⟩) (args_list_sort _)))
  exact wpAny_pure ⟨_, rfl, q out h1 h2⟩
end
end DL

set_option Elab.async false
set_option linter.all false
set_option maxRecDepth 100000
/-! built-in functions, subscripts, methods of lists, calls of defs -/
namespace DL
open PySem PySem.Spec PyProof.Rows L2

/-! ### sorting -/
theorem sortI_perm (l : List Int) : (sortI l).Perm l := List.mergeSort_perm l _
theorem sortI_pw (l : List Int) : (sortI l).Pairwise (· ≤ ·) := by
  have h := List.pairwise_mergeSort (le := fun a b : Int => decide (a ≤ b)) (fun a b c h1 h2 => by simp only [decide_eq_true_eq] at *; omega) (fun a b => by simp only [Bool.or_eq_true, decide_eq_true_eq]; omega) l
  exact h.imp fun h => of_decide_eq_true h
theorem sortI_eq {l m : List Int} (p : m.Perm l) (h : m.Pairwise (· ≤ ·)) : m = sortI l :=
  List.Perm.eq_of_pairwise (fun a b _ _ h1 h2 => by omega) h (sortI_pw l) (p.trans (sortI_perm l).symm)
theorem leP_iff {p q : Int × Int} : leP p q = true ↔ p.1 < q.1 ∨ (p.1 = q.1 ∧ p.2 ≤ q.2) := by unfold leP; simp
theorem sortP_perm (l : List (Int × Int)) : (sortP l).Perm l := List.mergeSort_perm l _
theorem sortP_pw (l : List (Int × Int)) : (sortP l).Pairwise fun p q => leP p q = true :=
  List.pairwise_mergeSort (le := leP) (fun a b c h1 h2 => by rw [leP_iff] at *; omega) (fun a b => by rw [Bool.or_eq_true, leP_iff, leP_iff]; omega) l
theorem sortP_eq {l m : List (Int × Int)} (p : m.Perm l) (h : m.Pairwise fun p q => leP p q = true) : m = sortP l :=
  List.Perm.eq_of_pairwise (le := fun p q => leP p q = true) (fun a b _ _ h1 h2 => by
    rw [leP_iff] at *
    exact Prod.ext (by omega) (by omega)) h (sortP_pw l) (p.trans (sortP_perm l).symm)
/-- a pair of ints as a value -/
def kP (K : PySem.W.Frag) (H : Hp) (v : V) (p : Int × Int) : Prop := ∃ t, v = V.ref t ∧ SqT K H t [.int p.1, .int p.2]
/-- sorted(xs), a list or a tuple of ints, or of pairs of ints -/
def rSrt (K : PySem.W.Frag) : List V → Hp → VK → Prop := fun vs H Q => ∃ (a : Addr) (xs : List V), vs = [V.ref a] ∧ (SqL K H a xs ∨ SqT K H a xs) ∧
  ((∃ ns, xs = ns.map V.int ∧ ∀ p, H p = none → Q (.ref p) (upd H p (.lst ((sortI ns).map V.int)))) ∨
    ∃ ps : List (Int × Int), Paired (kP K H) xs ps ∧ ∀ ys p, Paired (kP K H) ys (sortP ps) → H p = none → Q (.ref p) (upd H p (.lst ys)))
/-- the pair that an object holds -/
def kH (g : Heap) (u : Value) : Int × Int := match u with
  | .ref a => match g.get? a with
    | some o => match o.data with
      | .seq z _ => match z.toList with
        | [.int x _, .int y _] => (x, y)
        | _ => (0, 0)
      | _ => (0, 0)
    | none => (0, 0)
  | _ => (0, 0)
theorem kH_of {g : Heap} {u : Value} {x y : Int} (h : Srt.IsPair g u x y) : kH g u = (x, y) := by
  obtain ⟨a, o, t1, t2, n, rfl, h1, h2, h3⟩ := h
  simp only [kH, h1, h3]
theorem paired_mem {α β : Type} {R : α → β → Prop} : ∀ {xs : List α} {ys : List β}, Paired R xs ys → ∀ y ∈ ys, ∃ x ∈ xs, R x y
  | _, _, .nil, _, h => by cases h
  | _, _, .cons r t, y, h => by
    rcases List.mem_cons.mp h with e | h
    · subst e; exact ⟨_, List.mem_cons_self, r⟩
    · obtain ⟨x, h1, h2⟩ := paired_mem t y h
      exact ⟨x, List.mem_cons_of_mem _ h1, h2⟩
theorem cr_srt {X : Cx} : CallR X (.builtin "sorted") (rSrt X.K) := by
  intro pins s σ H vs us Q I r h
  obtain ⟨a, xs, rfl, hs, h⟩ := h
  obtain ⟨its, rv, hz, col⟩ : ∃ its : List Value, Vals xs its ∧ its.length ≤ sizeLine ∧ ∀ (A : Around) (E : Value → Shared → Prop) (R : List Value → Shared → Prop), R its { s with heap := colHeap s.heap its } → wpAny (model X.prog X.w) A (collect (.ref a)) R E s := by
    rcases hs with hs | hs
    · obtain ⟨its, rv, hl, hz⟩ := I.list hs
      have hz' : its.length ≤ sizeLine := by rw [← rv.length]; exact hz
      exact ⟨its, rv, hz', fun A E R q => collect_list hl.isList q hz'⟩
    · obtain ⟨its, rv, hl, hz⟩ := I.tuple hs
      have hz' : its.length ≤ sizeLine := by rw [← rv.length]; exact hz
      exact ⟨its, rv, hz', fun A E R q => collectT hl hz' q⟩
  rw [Vals.ref1 r]
  have sz : xs.length ≤ sizeLine := by rw [rv.length]; exact hz
  rcases h with ⟨ns, rfl, q⟩ | ⟨ps, hx, q⟩
  · have hi := rv.ints
    refine sortedC SrtO.swo_int hz col (fun h2 _ _ _ _ => SrtO.ints_sortable hi h2) fun out h1 h2 => ?_
    obtain ⟨k1, k2, k3⟩ := SrtO.ints_out hi h1 h2
    obtain ⟨ep, he⟩ := sortedAll_at s.heap its out.toArray
    have e := sortI_eq k2 k3
    rw [← e] at q
    refine ⟨.ref (s.heap.objs.size + 1), _, I.laid (t' := s.toks) (o := .lst ((out.map SrtO.iv).map V.int)) (fun _ _ => sortedAll_old) (Nat.le_succ _) ⟨?_, out, ep, vals_of_ints k1, he⟩, rfl, q _ (I.hok.fresh (Nat.le_succ _))⟩
    rw [List.length_map, k2.length_eq]
    rw [List.length_map] at sz
    exact sz
  · -- each value is a pair of the heap
    have all : ∀ {xs : List V} {us : List Value} {ps : List (Int × Int)}, Vals xs us → Paired (kP X.K H) xs ps → us.map (kH s.heap) = ps ∧ ∀ u ∈ us, Srt.IsPair s.heap u (kH s.heap u).1 (kH s.heap u).2 ∧ kP X.K H (backV u) (kH s.heap u) ∧ ∃ b, u = Value.ref b := by
      intro xs us ps rv hx
      induction hx generalizing us with
      | nil => cases rv; exact ⟨rfl, fun u h => by cases h⟩
      | cons r t ih =>
        cases rv with
        | cons r1 r2 =>
          obtain ⟨e1, e2⟩ := ih r2
          obtain ⟨b, rfl, hb⟩ := r
          cases r1
          obtain ⟨its2, rr, ⟨o, ho, hc, n, hd⟩, _⟩ := I.tuple hb
          obtain ⟨u1, u2, rfl, ⟨t1, rfl⟩, ⟨t2, rfl⟩⟩ := Vals.two rr
          have ip : Srt.IsPair s.heap (.ref b) _ _ := ⟨b, o, t1, t2, n, rfl, ho, hc, hd⟩
          have ek := kH_of ip
          refine ⟨by rw [List.map_cons, e1, ek], fun u hu => ?_⟩
          rcases List.mem_cons.mp hu with e | hu
          · subst e; rw [ek]; exact ⟨ip, ⟨b, rfl, hb⟩, b, rfl⟩
          · exact e2 u hu
    obtain ⟨e1, e2⟩ := all rv hx
    refine sortedC (SrtO.swo_lex (kH s.heap)) hz col (fun h2 g b hb old => ?_) fun out h1 h2 => ?_
    · refine SrtO.pairs_sortableO (s := { s with heap := g }) (by omega) (fun v hm => (e2 v hm).1.keeps fun b o e _ => (old b o e).2) fun o e => ?_
      have e' : some o = some (seqObj "list" its.toArray 0) := e.symm.trans hb
      cases e'
      intro c
      exact absurd (Value.type.inj c) (by decide)
    · have h3 : ∀ u ∈ out, u ∈ its := fun u hu => h2.perm.mem_iff.mp hu
      obtain ⟨ep, he⟩ := sortedAll_at s.heap its out.toArray
      have es : out.map (kH s.heap) = sortP ps := by
        refine sortP_eq (by rw [← e1]; exact h2.perm.map _) ?_
        refine List.pairwise_map.mpr (h1.imp fun {x y} h => ?_)
        have h := SrtO.lexB_no.mp h
        rw [leP_iff]
        omega
      have pr : ∀ us : List Value, (∀ u ∈ us, u ∈ its) → Paired (kP X.K H) (us.map backV) (us.map (kH s.heap)) := by
        intro us
        induction us with
        | nil => intro _; exact .nil
        | cons u r ih => intro h; exact .cons (e2 u (h u List.mem_cons_self)).2.1 (ih fun v hv => h v (List.mem_cons_of_mem _ hv))
      refine ⟨.ref (s.heap.objs.size + 1), _, I.laid (t' := s.toks) (o := .lst (out.map backV)) (fun _ _ => sortedAll_old) (Nat.le_succ _) ⟨?_, out, ep, vals_back fun u hu => (e2 u (h3 u hu)).2.2, he⟩, rfl, q _ _ (by rw [← es]; exact pr out h3) (I.hok.fresh (Nat.le_succ _))⟩
      rw [List.length_map, h2.perm.length_eq]
      exact hz

/-! ### built-in functions by values -/
def DBi (L : Lk) (r : List V → Hp → VK → Prop) (rd : List D → AH → QE → Prop) : Prop := ∀ ds vs A N H Q Qd, RVs L.K A N H ds vs → RA L A N H → rd ds A Qd → Kt L A N H Qd Q → r vs H Q
theorem CallR.bor {X : Cx} {f : Value} {r r' : List V → Hp → VK → Prop} (h : CallR X f r) (h' : CallR X f r') : CallR X f (fun xs H Q => r xs H Q ∨ r' xs H Q) := by
  intro pins s σ H xs us Q I rr q
  rcases q with q | q
  · exact h pins s σ H xs us Q I rr q
  · exact h' pins s σ H xs us Q I rr q
section
variable {L : Lk} {G : Gm} {n : Nat} {X : Cx} {a b c e : Expr} {es : List Expr} {ia ib ic ie : IE} {ies : List IE} {pos p : Pos} {x : Str}
theorem de_bi {id : String} {r : List V → Hp → VK → Prop} {k : BI} (hc : X.calm = true → CallR X (.builtin id) r) (hr : X.K = L.K → DBi L r (dBi k)) (hg : Gl X x) (hm : X.mg x = none) (hv : bootBuiltins x = some (.builtin id)) (ha : DA L G n X (e :: es) ies)
    (hn : x ≠ "__name__") (hdb : (x == ("__debug__" : Str)) = false) (he : starEach (e :: es) X.env = (false, eval e X.env) :: starEach es X.env) (hpl : (backTo pos (starEach es X.env)).any (·.1) = false) : DE L G n X (.Call (.Name x p) (e :: es) [] pos) (.bi k ies) := fun C W tk =>
  pe_imp (pe_callB (hc C.calm) hg hm hv (ha C W tk) hn hdb he hpl) fun σ H Q ⟨N, δ, A, Qd, Ed, rs, ra, h, hq, hx⟩ =>
    LAs.use rs ra h (fun ds A1 vs H1 rv1 ra1 ex1 rs1 q1 => hr C.K ds vs A1 N H1 Q Qd rv1 ra1 q1 fun d A' v' H' r1 r2 e q => hq d A' v' H' r1 r2 (ex1.trans e) q) hx
theorem de_biT {T : String} {r : List V → Hp → VK → Prop} {k : BI} (hc : X.calm = true → CallR X (.type T) r) (hr : X.K = L.K → DBi L r (dBi k)) (hg : Gl X x) (hm : X.mg x = none) (hv : bootBuiltins x = some (.type T)) (ha : DA L G n X (e :: es) ies)
    (hn : x ≠ "__name__") (hdb : (x == ("__debug__" : Str)) = false) (he : starEach (e :: es) X.env = (false, eval e X.env) :: starEach es X.env) (hpl : (backTo pos (starEach es X.env)).any (·.1) = false) : DE L G n X (.Call (.Name x p) (e :: es) [] pos) (.bi k ies) := fun C W tk =>
  pe_imp (pe_callTy (hc C.calm) hg hm hv (ha C W tk) hn hdb he hpl) fun σ H Q ⟨N, δ, A, Qd, Ed, rs, ra, h, hq, hx⟩ =>
    LAs.use rs ra h (fun ds A1 vs H1 rv1 ra1 ex1 rs1 q1 => hr C.K ds vs A1 N H1 Q Qd rv1 ra1 q1 fun d A' v' H' r1 r2 e q => hq d A' v' H' r1 r2 (ex1.trans e) q) hx
end
theorem rvs1 {K : PySem.W.Frag} {A : AH} {N : Addr → Prop} {H : Hp} {d : D} {vs : List V} (h : RVs K A N H [d] vs) : ∃ v, vs = [v] ∧ RV K A N H d v := by
  obtain ⟨v, r, rfl, h1, h2⟩ := h.cons'
  rw [h2.nil']; exact ⟨v, rfl, h1⟩
theorem rvs2 {K : PySem.W.Frag} {A : AH} {N : Addr → Prop} {H : Hp} {d d' : D} {vs : List V} (h : RVs K A N H [d, d'] vs) : ∃ v v', vs = [v, v'] ∧ RV K A N H d v ∧ RV K A N H d' v' := by
  obtain ⟨v, r, rfl, h1, h2⟩ := h.cons'
  obtain ⟨v', rfl, h3⟩ := rvs1 h2
  exact ⟨v, v', rfl, h1, h3⟩
def rLen (K : PySem.W.Frag) : List V → Hp → VK → Prop := fun xs H Q => (∃ p ys, xs = [.ref p] ∧ (SqL K H p ys ∨ SqT K H p ys) ∧ Q (.int ys.length) H) ∨ ∃ z, xs = [.str z] ∧ z.length ≤ sizeLine ∧ Q (.int z.length) H
theorem cr_len {X : Cx} : CallR X (.builtin "len") (rLen X.K) := CallR.bor call_len_seq call_len_str
theorem db_len {L : Lk} : DBi L (rLen L.K) (dBi .len) := by
  intro ds vs A N H Q Qd rv ra h k
  match ds, rv, h with
  | [d], rv, h =>
    obtain ⟨v, rfl, r⟩ := rvs1 rv
    have seq : ∀ xs, seqD A d = some xs → Qd (.int xs.length) A → rLen L.K [v] H Q := fun xs e q => by
      obtain ⟨p, ws, rfl, h1, h2⟩ := seqD_rv e ra r
      exact .inl ⟨p, ws, rfl, h1, by rw [← h2.length]; exact k.int ra q⟩
    cases d with
    | str z => exact .inr ⟨z, by rw [rv_str.mp r], h.1, k.int ra h.2⟩
    | tup xs => exact seq xs rfl h
    | rol xs => exact seq xs rfl h
    | fl xs => exact seq xs rfl h
    | rod _ _ => exact (show False from h).elim
    | ptp xs => exact seq xs rfl h
    | ref b =>
      have h : (match seqD A (.ref b) with | some xs => Qd (.int xs.length) A | none => False) := h
      split at h
      · next xs e => exact seq xs e h
      · exact h.elim
    | non => exact (show False from h).elim
    | bl _ => exact (show False from h).elim
    | int _ => exact (show False from h).elim
  | [], _, h => exact (show False from h).elim
  | d :: _ :: _, _, h => cases d <;> exact (show False from h).elim
theorem db_sum {L : Lk} : DBi L (rSum L.K) (dBi .sum) := by
  intro ds vs A N H Q Qd rv ra h k
  match ds, rv, h with
  | [d], rv, h =>
    obtain ⟨v, rfl, r⟩ := rvs1 rv
    have h : (match lstD A d with | some xs => (match alls int1 xs with | some ns => Qd (.int ns.sum) A | none => False) | none => False) := h
    split at h
    · next xs e =>
      split at h
      · next ns e2 =>
        obtain ⟨b, ws, rfl, h1, h2⟩ := lstD_rv e ra r
        rw [alls_int e2] at h2
        rw [h2.ints] at h1
        exact ⟨b, ns, rfl, h1, k.int ra h⟩
      · exact h.elim
    · exact h.elim
  | [], _, h => exact (show False from h).elim
  | d :: _ :: _, _, h => exact (show False from h).elim
theorem db_all {L : Lk} : DBi L (rAll L.K) (dBi .all) := by
  intro ds vs A N H Q Qd rv ra h k
  match ds, rv, h with
  | [d], rv, h =>
    obtain ⟨v, rfl, r⟩ := rvs1 rv
    have h : (match lstD A d with | some xs => (match alls bl1 xs with | some ns => Qd (.bl (ns.all id)) A | none => False) | none => False) := h
    split at h
    · next xs e =>
      split at h
      · next ns e2 =>
        obtain ⟨b, ws, rfl, h1, h2⟩ := lstD_rv e ra r
        rw [alls_bl e2] at h2
        rw [h2.bls] at h1
        exact ⟨b, ns, rfl, h1, k.bl ra h⟩
      · exact h.elim
    · exact h.elim
  | [], _, h => exact (show False from h).elim
  | d :: _ :: _, _, h => exact (show False from h).elim
theorem db_any {L : Lk} : DBi L (rAny L.K) (dBi .any) := by
  intro ds vs A N H Q Qd rv ra h k
  match ds, rv, h with
  | [d], rv, h =>
    obtain ⟨v, rfl, r⟩ := rvs1 rv
    have h : (match lstD A d with | some xs => (match alls bl1 xs with | some ns => Qd (.bl (ns.any id)) A | none => False) | none => False) := h
    split at h
    · next xs e =>
      split at h
      · next ns e2 =>
        obtain ⟨b, ws, rfl, h1, h2⟩ := lstD_rv e ra r
        rw [alls_bl e2] at h2
        rw [h2.bls] at h1
        exact ⟨b, ns, rfl, h1, k.bl ra h⟩
      · exact h.elim
    · exact h.elim
  | [], _, h => exact (show False from h).elim
  | d :: _ :: _, _, h => exact (show False from h).elim
theorem db_min1 {L : Lk} : DBi L (rMin L.K) (dBi .min1) := by
  intro ds vs A N H Q Qd rv ra h k
  match ds, rv, h with
  | [d], rv, h =>
    obtain ⟨v, rfl, r⟩ := rvs1 rv
    have h : (match lstD A d with | some xs => (match alls int1 xs with | some ns => (0 < ns.length ∧ ∀ m, m ∈ ns → (∀ y, y ∈ ns → m ≤ y) → Qd (.int m) A) | none => False) | none => False) := h
    split at h
    · next xs e =>
      split at h
      · next ns e2 =>
        obtain ⟨b, ws, rfl, h1, h2⟩ := lstD_rv e ra r
        rw [alls_int e2] at h2
        rw [h2.ints] at h1
        exact ⟨b, ns, rfl, h1, h.1, fun m m1 m2 => k.int ra (h.2 m m1 m2)⟩
      · exact h.elim
    · exact h.elim
  | [], _, h => exact (show False from h).elim
  | d :: _ :: _, _, h => exact (show False from h).elim
theorem db_max1 {L : Lk} : DBi L (rMax L.K) (dBi .max1) := by
  intro ds vs A N H Q Qd rv ra h k
  match ds, rv, h with
  | [d], rv, h =>
    obtain ⟨v, rfl, r⟩ := rvs1 rv
    have h : (match lstD A d with | some xs => (match alls int1 xs with | some ns => (0 < ns.length ∧ ∀ m, m ∈ ns → (∀ y, y ∈ ns → y ≤ m) → Qd (.int m) A) | none => False) | none => False) := h
    split at h
    · next xs e =>
      split at h
      · next ns e2 =>
        obtain ⟨b, ws, rfl, h1, h2⟩ := lstD_rv e ra r
        rw [alls_int e2] at h2
        rw [h2.ints] at h1
        exact ⟨b, ns, rfl, h1, h.1, fun m m1 m2 => k.int ra (h.2 m m1 m2)⟩
      · exact h.elim
    · exact h.elim
  | [], _, h => exact (show False from h).elim
  | d :: _ :: _, _, h => exact (show False from h).elim
def rTupOf (K : PySem.W.Frag) : List V → Hp → VK → Prop := fun xs H Q => ∃ p ys, xs = [.ref p] ∧ ((SqL K H p ys ∧ ∀ l, H l = none → Q (.ref l) (upd H l (.tup ys))) ∨ (SqT K H p ys ∧ Q (.ref p) H))
theorem db_tuple {L : Lk} : DBi L (rTupOf L.K) (dBi .tuple) := by
  intro ds vs A N H Q Qd rv ra h k
  match ds, rv, h with
  | [d], rv, h =>
    obtain ⟨v, rfl, r⟩ := rvs1 rv
    have h : (match seqD A d with | some xs => Qd (.tup xs) A | none => False) := h
    split at h
    · next xs e =>
      obtain ⟨p, ws, rfl, h1, h2⟩ := seqD_rv e ra r
      rcases h1 with h1 | h1
      · exact ⟨p, ws, rfl, .inl ⟨h1, k.tup ra h2 h⟩⟩
      · exact ⟨p, ws, rfl, .inr ⟨h1, k.here ra (rv_tup.mpr ⟨p, ws, rfl, h1, h2⟩) h⟩⟩
    · exact h.elim
  | [], _, h => exact (show False from h).elim
  | _ :: _ :: _, _, h => exact (show False from h).elim
def rLstOf (K : PySem.W.Frag) : List V → Hp → VK → Prop := fun xs H Q => ∃ p ys, xs = [.ref p] ∧ (SqL K H p ys ∨ SqT K H p ys) ∧ ∀ l, H l = none → Q (.ref l) (upd H l (.lst ys))
theorem db_list {L : Lk} : DBi L (rLstOf L.K) (dBi .list) := by
  intro ds vs A N H Q Qd rv ra h k
  match ds, rv, h with
  | [d], rv, h =>
    obtain ⟨v, rfl, r⟩ := rvs1 rv
    have h : (match seqD A d with | some xs => newL A xs Qd | none => False) := h
    split at h
    · next xs e =>
      obtain ⟨p, ws, rfl, h1, h2⟩ := seqD_rv e ra r
      exact ⟨p, ws, rfl, h1, k.lst ra h2 h⟩
    · exact h.elim
  | [], _, h => exact (show False from h).elim
  | _ :: _ :: _, _, h => exact (show False from h).elim
def rInt1 : List V → Hp → VK → Prop := fun xs H Q => (∃ i, xs = [.int i] ∧ Q (.int i) H) ∨ ∃ k, xs = [.bl k] ∧ Q (.int (if k then 1 else 0)) H
theorem db_int1 {L : Lk} : DBi L rInt1 (dBi .int1) := by
  intro ds vs A N H Q Qd rv ra h k
  match ds, rv, h with
  | [d], rv, h =>
    obtain ⟨v, rfl, r⟩ := rvs1 rv
    cases d with
    | int i => exact .inl ⟨i, by rw [rv_int.mp r], k.int ra h⟩
    | bl i => exact .inr ⟨i, by rw [rv_bl.mp r], k.int ra h⟩
    | _ => exact (show False from h).elim
  | [], _, h => exact (show False from h).elim
  | d :: _ :: _, _, h => cases d <;> exact (show False from h).elim
def rStr1 : List V → Hp → VK → Prop := fun xs H Q => ∃ i : Int, xs = [.int i] ∧ i.natAbs.log2 < 1920 ∧ Q (.str (toString i)) H
theorem db_str1 {L : Lk} : DBi L rStr1 (dBi .str1) := by
  intro ds vs A N H Q Qd rv ra h k
  match ds, rv, h with
  | [d], rv, h =>
    obtain ⟨v, rfl, r⟩ := rvs1 rv
    cases d with
    | int i => exact ⟨i, by rw [rv_int.mp r], h.1, k.str ra h.2⟩
    | _ => exact (show False from h).elim
  | [], _, h => exact (show False from h).elim
  | d :: _ :: _, _, h => cases d <;> exact (show False from h).elim
def rMin2 : List V → Hp → VK → Prop := fun xs H Q => ∃ i j : Int, xs = [.int i, .int j] ∧ Q (.int (if j < i then j else i)) H
theorem db_min2 {L : Lk} : DBi L rMin2 (dBi .min2) := by
  intro ds vs A N H Q Qd rv ra h k
  match ds, rv, h with
  | [d, d'], rv, h =>
    obtain ⟨v, v', rfl, r, r'⟩ := rvs2 rv
    cases d with
    | int i =>
      cases d' with
      | int j => exact ⟨i, j, by rw [rv_int.mp r, rv_int.mp r'], k.int ra h⟩
      | _ => exact (show False from h).elim
    | _ => cases d' <;> exact (show False from h).elim
  | [], _, h => exact (show False from h).elim
  | [d], _, h => cases d <;> exact (show False from h).elim
  | d :: d' :: _ :: _, _, h => cases d <;> cases d' <;> exact (show False from h).elim
def rMax2 : List V → Hp → VK → Prop := fun xs H Q => ∃ i j : Int, xs = [.int i, .int j] ∧ Q (.int (if j > i then j else i)) H
theorem db_max2 {L : Lk} : DBi L rMax2 (dBi .max2) := by
  intro ds vs A N H Q Qd rv ra h k
  match ds, rv, h with
  | [d, d'], rv, h =>
    obtain ⟨v, v', rfl, r, r'⟩ := rvs2 rv
    cases d with
    | int i =>
      cases d' with
      | int j => exact ⟨i, j, by rw [rv_int.mp r, rv_int.mp r'], k.int ra h⟩
      | _ => exact (show False from h).elim
    | _ => cases d' <;> exact (show False from h).elim
  | [], _, h => exact (show False from h).elim
  | [d], _, h => cases d <;> exact (show False from h).elim
  | d :: d' :: _ :: _, _, h => cases d <;> cases d' <;> exact (show False from h).elim
theorem prs_of {K : PySem.W.Frag} {A : AH} {N : Addr → Prop} {H : Hp} : ∀ {ps : List (Int × Int)} {ws : List V}, RVs K A N H (ps.map prD) ws → Paired (kP K H) ws ps
  | [], _, r => by rw [r.nil']; exact .nil
  | p :: ps, _, r => by
    obtain ⟨v, vr, rfl, r1, r2⟩ := RVs.cons' r
    obtain ⟨a, vs, rfl, h1, h2⟩ := rv_tup.mp r1
    obtain ⟨v1, v2, rfl, h3, h4⟩ := rvs2 h2
    rw [rv_int.mp h3, rv_int.mp h4] at h1
    exact .cons ⟨a, rfl, h1⟩ (prs_of r2)
theorem of_prs {K : PySem.W.Frag} {A : AH} {N : Addr → Prop} {H : Hp} : ∀ {ps : List (Int × Int)} {ws : List V}, Paired (kP K H) ws ps → RVs K A N H (ps.map prD) ws
  | _, _, .nil => .nil
  | _, _, .cons ⟨a, e, h⟩ t => .cons (rv_tup.mpr ⟨a, _, e, h, .cons (rv_int.mpr rfl) (.cons (rv_int.mpr rfl) .nil)⟩) (of_prs t)
theorem db_sorted {L : Lk} : DBi L (fun vs H Q => rSrt L.K vs H Q) (dBi .sorted) := by
  intro ds vs A N H Q Qd rv ra h k
  match ds, rv, h with
  | [d], rv, h =>
    obtain ⟨v, rfl, r⟩ := rvs1 rv
    have h : dSort d A Qd := h
    unfold dSort at h
    split at h
    · next xs e =>
      obtain ⟨p, ws, rfl, h1, h2⟩ := seqD_rv e ra r
      split at h
      · next ns e2 =>
        rw [alls_int e2] at h2
        exact ⟨p, ws, rfl, h1, .inl ⟨ns, h2.ints, k.lst ra (RVs.of_ints _) h⟩⟩
      · split at h
        · next ps e2 =>
          rw [alls_pr e2] at h2
          exact ⟨p, ws, rfl, h1, .inr ⟨ps, prs_of h2, fun ys q hp np => k.lst ra (of_prs hp) h q np⟩⟩
        · exact h.elim
    · exact h.elim
  | [], _, h => exact (show False from h).elim
  | _ :: _ :: _, _, h => exact (show False from h).elim
end DL

set_option Elab.async false
set_option linter.all false
set_option maxRecDepth 100000
namespace DL
open PySem PySem.Spec PyProof.Rows L2
section
variable {L : Lk} {G : Gm} {n : Nat} {X : Cx} {a b c e : Expr} {es : List Expr} {ia ib ic ie : IE} {ies : List IE} {pos p p2 : Pos} {x : Str}

/-! ### isinstance -/
def tkN : TyK → String | .int => "int" | .bool => "bool" | .tuple => "tuple" | .list => "list" | .str => "str"
theorem tyX_of {A : AH} {H : Hp} {d : D} {v : V} {k : TyK} {r : Bool} (ra : RA L A N H) (rv : RV L.K A N H d v) (h : isD k A d = some r) : ∃ t : String, TyX L.K H v (.type t) ∧ PySem.W.kitOne L.K (.type t) (.type (tkN k)) = some r := by
  cases d with
  | non => rw [rv_non.mp rv]; cases h; exact ⟨_, .base .non, by cases k <;> exact kit_ty (by decide +kernel)⟩
  | bl b => rw [rv_bl.mp rv]; refine ⟨_, .base (.bl b), ?_⟩; cases k <;> (cases h; exact kit_ty (by decide +kernel))
  | int b => rw [rv_int.mp rv]; refine ⟨_, .base (.int b), ?_⟩; cases k <;> (cases h; exact kit_ty (by decide +kernel))
  | str b => rw [rv_str.mp rv]; refine ⟨_, .base (.str b), ?_⟩; cases k <;> (cases h; exact kit_ty (by decide +kernel))
  | tup xs =>
    obtain ⟨q, vs, rfl, h1, h2⟩ := rv_tup.mp rv
    have ty : TyX L.K H (.ref q) (.type "tuple") := by
      rcases h1 with (h1 | ⟨o, h1⟩) | ⟨o, _, _, h1, h3, _⟩
      · exact .base (.tup h1)
      · exact .fTuple h1
      · exact .kTuple h1 h3
    refine ⟨_, ty, ?_⟩
    cases k <;> (cases h; exact kit_ty (by decide +kernel))
  | rol xs =>
    obtain ⟨q, vs, rfl, h1, h2⟩ := rv_rol.mp rv
    have ty : TyX L.K H (.ref q) (.type "list") := by
      rcases h1 with ⟨h1 | ⟨o, h1⟩, _⟩ | ⟨o, _, _, h1, h3, _⟩
      · exact .base (.lst h1)
      · exact .base (.frz h1)
      · exact .kList h1 h3
    refine ⟨_, ty, ?_⟩
    cases k <;> (cases h; exact kit_ty (by decide +kernel))
  | fl xs =>
    obtain ⟨q, vs, rfl, h1, h2⟩ := rv_fl.mp rv
    have ty : TyX L.K H (.ref q) (.type "list") := by
      rcases h1.1 with h1 | ⟨o, h1⟩
      · exact .base (.lst h1)
      · exact .base (.frz h1)
    refine ⟨_, ty, ?_⟩
    cases k <;> (cases h; exact kit_ty (by decide +kernel))
  | ptp xs => cases h
  | rod _ _ =>
    obtain ⟨q, ws, rfl, h1, h2⟩ := rv_rod.mp rv
    have ty : TyX L.K H (.ref q) (.type "dict") := by
      rcases h1.1 with h1 | ⟨o, h1⟩
      · exact .base (.dK h1)
      · exact .fDict h1
    refine ⟨_, ty, ?_⟩
    cases k <;> (cases h; exact kit_ty (by decide +kernel))
  | ref q =>
    rw [rv_ref.mp rv]
    simp only [isD] at h
    split at h
    · next xs e =>
      obtain ⟨vs, h1, h2⟩ := ra q _ e
      refine ⟨_, .base (.lst h1), ?_⟩
      cases k <;> (cases h; exact kit_ty (by decide +kernel))
    · cases h
theorem de_isi {k : TyK} {T : Str} (hg : Gl X "isinstance") (hm : X.mg "isinstance" = none) (hgT : Gl X T) (hmT : X.mg T = none) (hvT : bootBuiltins T = some (.type (tkN k))) (ha : DE L G n X a ia) (hnT : T ≠ "__name__") (hdT : (T == ("__debug__" : Str)) = false)
    (hs : starEach [a, .Name T p2] X.env = (false, eval a X.env) :: starEach [.Name T p2] X.env) (hs2 : starEach [.Name T p2] X.env = (false, eval (.Name T p2) X.env) :: starEach [] X.env) (hpl : (backTo pos (starEach [.Name T p2] X.env)).any (·.1) = false) :
    DE L G n X (.Call (.Name "isinstance" p) [a, .Name T p2] [] pos) (.isi k ia) := fun C W tk =>
  pe_imp (pe_callB call_isi hg hm (by decide +kernel) (pa_cons (ha C W tk) (pa_cons (pe_bltn (v := .ty (tkN k)) hgT hmT hvT rfl hnT hdT) pa_nil hs2) hs) (by decide) (by decide) hs hpl) fun σ H Q ⟨N, δ, A, Qd, Ed, rs, ra, h, hq, hx⟩ =>
    LE.use rs ra h (fun d A1 v1 H1 rv1 ra1 ex1 rs1 q1 => by
      split at q1
      · next r e =>
        obtain ⟨t, h1, h2⟩ := tyX_of ra1 rv1 e
        exact ⟨v1, .ty (tkN k), .type t, .type (tkN k), r, rfl, .ty _, by rw [C.K]; exact h1, by rw [C.K]; exact h2, hq _ A1 _ H1 (rv_bl.mpr rfl) ra1 ex1 q1⟩
      · exact q1.elim) hx

/-! ### list(range(..)), tuple(range(..)) -/
theorem rvs_rg {K : PySem.W.Frag} {A : AH} {N : Addr → Prop} {H : Hp} (i j : Int) : RVs K A N H (rgD i j) (rgV i j) := by
  have h : ∀ l : List Nat, RVs K A N H (l.map fun k => D.int (i + (k : Nat))) (l.map fun k => V.int (i + (k : Nat))) := by
    intro l
    induction l with
    | nil => exact .nil
    | cons x r ih => exact .cons (rv_int.mpr rfl) ih
  exact h _
/-- a range as an argument -/
def LRg (L : Lk) (W : WX) (w : WA) : L2.St → Hp → (Int → Int → Hp → Prop) → Prop := fun σ H R => ∃ (N : Addr → Prop) (δ : DSt) (A : AH) (Rd : Int → Int → AH → Prop) (Ed : XQ), RS L.K A N H δ σ ∧ RA L A N H ∧ w δ A (fun ds A1 => rgC ds fun i j => Rd i j A1) Ed ∧
  (∀ i j A' H', RA L A' N H' → Ext A H A' H' → Rd i j A' → R i j H') ∧ ∀ x A' H', RA L A' N H' → Ext A H A' H' → Ed x A' → W (L.XV x) none σ H'
def DRg (L : Lk) (G : Gm) (n : Nat) (X : Cx) (e : Expr) (ies : List IE) : Prop := Cn L G n X → ∀ W, Takes X W → PRg X e (LRg L W (wpEs (callN G n) G ies))
theorem drg_1 (hg : Gl X "range") (hm : X.mg "range" = none) (ha : DE L G n X a ia) (na : starEach [a] X.env = (false, eval a X.env) :: starEach [] X.env) : DRg L G n X (.Call (.Name "range" p) [a] [] pos) [ia] := fun C W tk => by
  intro pins s σ H Q I h
  obtain ⟨N, δ, A, Rd, Ed, rs, ra, h, hq, hx⟩ := h
  refine prg_1 (pos := pos) (p := p) hg hm (ha C W tk) na pins s σ H Q I (LE.use rs ra h (fun d A1 v1 H1 rv1 ra1 ex1 rs1 q1 => ?_) hx)
  cases d with
  | int i => exact ⟨i, rv_int.mp rv1, hq 0 i A1 H1 ra1 ex1 q1⟩
  | _ => exact (show False from q1).elim
theorem drg_2 (hg : Gl X "range") (hm : X.mg "range" = none) (ha : DE L G n X a ia) (hb : DE L G n X b ib) (na : starEach [a, b] X.env = (false, eval a X.env) :: starEach [b] X.env) (nb : starEach [b] X.env = (false, eval b X.env) :: starEach [] X.env)
    (hp : (backTo pos (starEach [b] X.env)).any (·.1) = false) : DRg L G n X (.Call (.Name "range" p) [a, b] [] pos) [ia, ib] := fun C W tk => by
  intro pins s σ H Q I h
  obtain ⟨N, δ, A, Rd, Ed, rs, ra, h, hq, hx⟩ := h
  refine prg_2 (pos := pos) (p := p) hg hm (ha C W tk) (hb C W tk) na nb hp pins s σ H Q I (LE.use rs ra h (fun d A1 v1 H1 rv1 ra1 ex1 rs1 q1 => LE.use rs1 ra1 q1 (fun d2 A2 v2 H2 rv2 ra2 ex2 rs2 q2 => ?_) (XW.ext hx ex1)) hx)
  have rv1' := RV.stay (ex2.stay ra1) _ _ rv1
  cases d with
  | int i =>
    cases d2 with
    | int j => exact ⟨i, j, rv_int.mp rv1', rv_int.mp rv2, hq i j A2 H2 ra2 (ex1.trans ex2) q2⟩
    | _ => exact (show False from q2).elim
  | _ => cases d2 <;> exact (show False from q2).elim
theorem de_lrg (hg : Gl X "list") (hm : X.mg "list" = none) (he : DRg L G n X e ies) (na : starEach [e] X.env = (false, eval e X.env) :: starEach [] X.env) : DE L G n X (.Call (.Name "list" p) [e] [] pos) (.rgl false ies) := fun C W tk =>
  pe_imp (pe_listRg C.calm hg hm (he C W tk) na) fun σ H Q ⟨N, δ, A, Qd, Ed, rs, ra, h, hq, hx⟩ =>
    ⟨N, δ, A, fun i j A1 => RgOk i j ∧ (if false = true then Qd (.tup (rgD i j)) A1 else newL A1 (rgD i j) Qd), Ed, rs, ra, h, fun i j A1 H1 ra1 ex1 q1 => ⟨q1.1, by
      have q := q1.2
      rw [if_neg Bool.false_ne_true] at q
      exact Kt.lst (fun d A' v' H' r1 r2 e q => hq d A' v' H' r1 r2 (ex1.trans e) q) ra1 (rvs_rg i j) q⟩, hx⟩
theorem de_trg (hg : Gl X "tuple") (hm : X.mg "tuple" = none) (he : DRg L G n X e ies) (na : starEach [e] X.env = (false, eval e X.env) :: starEach [] X.env) : DE L G n X (.Call (.Name "tuple" p) [e] [] pos) (.rgl true ies) := fun C W tk =>
  pe_imp (pe_tupRg C.calm hg hm (he C W tk) na) fun σ H Q ⟨N, δ, A, Qd, Ed, rs, ra, h, hq, hx⟩ =>
    ⟨N, δ, A, fun i j A1 => RgOk i j ∧ (if true = true then Qd (.tup (rgD i j)) A1 else newL A1 (rgD i j) Qd), Ed, rs, ra, h, fun i j A1 H1 ra1 ex1 q1 => ⟨q1.1, by
      have q := q1.2
      rw [if_pos rfl] at q
      exact Kt.tup (fun d A' v' H' r1 r2 e q => hq d A' v' H' r1 r2 (ex1.trans e) q) ra1 (rvs_rg i j) q⟩, hx⟩

/-! ### subscripts, slices -/
theorem RVs.atI {K : PySem.W.Frag} {A : AH} {N : Addr → Prop} {H : Hp} {ds : List D} {vs : List V} {i : Int} {d : D} (r : RVs K A N H ds vs) (h : atI ds i = some d) : ∃ v, L2.atI vs i = some v ∧ RV K A N H d v := by
  unfold L2.atI at *
  rw [← r.length]
  cases e : ixN ds.length i with
  | none => rw [e] at h; cases h
  | some j =>
    rw [e] at h
    exact RVs.get r h
def rIxD : R2 := fun x y H Q => ∃ a ws k v, x = .ref a ∧ y = kV k ∧ Rd H a (.dK ws) ∧ valV ws k = some v ∧ Q v H
theorem ix_dict (hu : X.A.units + 1 < cLine) : IxR X rIxD := by
  intro value slice pins s σ H x y v u Q I rx ry h hs
  obtain ⟨a, ws, k, d, rfl, rfl, h1, h2, q⟩ := h
  cases rx
  have g : DGet H a (kV k) (some d) := .inl ⟨ws, k, h1, rfl, h2.symm⟩
  have hT := dict_typeIs I g
  unfold subscriptTail
  refine wpAny_bind ?_
  rw [getitemInPython_of_ne hT.not_modules]
  refine wpAny_bind (wpAny_specialOf hT PySem.F.slot_dict_getitem.lookup ?_)
  have fin : wpAny (model X.prog X.w) X.A (subscripted slice false (.ref a) u) (fun r s₃ => wpAny (model X.prog X.w) X.A (letTemporaryGo value (.ref a) r >>= fun _ => pure r) (EP X pins σ Q) X.xe s₃) X.xe s := by
    rw [hs]
    exact wpAny_operating (d_getItem hu I g ry fun w' s3 I3 rw' => wpAny_bind (wpAny_letTemporaryGo (wpAny_pure ⟨d, H, I3, rw', q⟩)))
  first
    | exact wpAny_pure (wpAny_bind fin)
    | exact wpAny_bind (wpAny_pure (wpAny_bind fin))
    | exact wpAny_bind fin
theorem ix_all (hu : X.A.units + 1 < cLine) : IxR X (fun x y H Q => rIx X.K x y H Q ∨ rIxD x y H Q) := by
  intro value slice pins s σ H x y v u Q I rx ry h hs
  rcases h with h | h
  · exact ix_seq value slice pins s σ H x y v u Q I rx ry h hs
  · exact ix_dict hu value slice pins s σ H x y v u Q I rx ry h hs
theorem RKs.get {A : AH} {N : Addr → Prop} {H : Hp} {kvs : List (Key × D)} {ws : List (Key × V)} {k : Key} {d : D} (h : RKs L.K A N H kvs ws) (e : valD kvs k = some d) : ∃ v, valV ws k = some v ∧ RV L.K A N H d v := by
  have := h.val k
  rw [e] at this
  cases q : valV ws k with
  | none => rw [q] at this; exact this.elim
  | some v => rw [q] at this; exact ⟨v, rfl, this⟩
theorem dop_ix {L : Lk} : DOp L (fun x y H Q => rIx L.K x y H Q ∨ rIxD x y H Q) dIx := by
  intro x y v u A N H Q Qd rx ry ra h k
  have dict : ∀ (ky : Key), RV L.K A N H y u → (u = kV ky) → (match dicD A x with | some kvs => (match valD kvs ky with | some d => Qd d A | none => False) | none => False) → rIxD v u H Q := fun ky _ eu h => by
    split at h
    · next kvs e =>
      split at h
      · next d e2 =>
        obtain ⟨a, ws, rfl, h1, h2⟩ := dicD_rv e ra rx
        obtain ⟨w, h3, h4⟩ := h2.get e2
        exact ⟨a, ws, ky, w, rfl, eu, h1, h3, k.here ra h4 h⟩
      · exact h.elim
    · exact h.elim
  cases y with
  | int i =>
    simp only [dIx] at h
    split at h
    · next xs e =>
      obtain ⟨q, vs, rfl, h1, h2⟩ := seqD_rv e ra rx
      split at h
      · next d e2 =>
        obtain ⟨w, h3, h4⟩ := RVs.atI h2 e2
        rcases h1 with h1 | h1
        · exact .inl (.inl ⟨q, vs, i, w, rfl, rv_int.mp ry, h1, h3, k.here ra h4 h⟩)
        · exact .inl (.inr (.inl ⟨q, vs, i, w, rfl, rv_int.mp ry, h1, h3, k.here ra h4 h⟩))
      · exact h.elim
    · cases x with
      | str z =>
        obtain ⟨hz, h⟩ := h
        split at h
        · next c e2 => exact .inl (.inr (.inr ⟨z, i, c, rv_str.mp rx, rv_int.mp ry, hz, e2, k.str ra h⟩))
        · exact h.elim
      | ref a => exact .inr (dict (.inl i) ry (rv_int.mp ry) h)
      | rod ks xs => exact .inr (dict (.inl i) ry (rv_int.mp ry) h)
      | _ => exact (show False from h).elim
  | str z => exact .inr (dict (.inr z) ry (rv_str.mp ry) h)
  | _ => exact (show False from h).elim
theorem de_ix (ha : DE L G n X a ia) (hb : DE L G n X b ib) (hs : PlainIx b) : DE L G n X (.Subscript a b pos) (.ix ia ib) := fun C W tk =>
  pe_imp (pe_ix (ix_all (hu_of C.room)) (ha C W tk) (hb C W tk) hs) fun σ H Q ⟨N, δ, A, Qd, Ed, rs, ra, h, hq, hx⟩ =>
    LE.use rs ra h (fun x A1 v1 H1 rv1 ra1 ex1 rs1 q1 => LE.use rs1 ra1 q1 (fun y A2 v2 H2 rv2 ra2 ex2 rs2 q2 => by
      rw [C.K]
      exact dop_ix x y v1 v2 A2 N H2 Q Qd (RV.stay (ex2.stay ra1) _ _ rv1) rv2 ra2 q2 fun d A' v' H' r1 r2 e q => hq d A' v' H' r1 r2 ((ex1.trans ex2).trans e) q) (XW.ext hx ex1)) hx
/-- an optional part of a slice -/
abbrev WO := DSt → AH → (Option Int → AH → Prop) → XQ → Prop
def LO (L : Lk) (W : WX) (w : WO) : TO := fun σ H Q => ∃ (N : Addr → Prop) (δ : DSt) (A : AH) (Qd : Option Int → AH → Prop) (Ed : XQ), RS L.K A N H δ σ ∧ RA L A N H ∧ w δ A Qd Ed ∧
  (∀ o A' H', RA L A' N H' → Ext A H A' H' → Qd o A' → Q o H') ∧ ∀ x A' H', RA L A' N H' → Ext A H A' H' → Ed x A' → W (L.XV x) none σ H'
def DO (L : Lk) (G : Gm) (n : Nat) (X : Cx) (e : Option Expr) (i : Option IE) : Prop := Cn L G n X → ∀ W, Takes X W → PO X e (LO L W (wpO (callN G n) G i))
theorem po_imp {e : Option Expr} {t t' : TO} (h : PO X e t) (k : ∀ σ H Q, t' σ H Q → t σ H Q) : PO X e t' := ⟨fun pins s σ H Q I q => h.run pins s σ H Q I (k σ H Q q)⟩
theorem do_none : DO L G n X none none := fun C W tk => po_imp po_none fun σ H Q ⟨N, δ, A, Qd, Ed, rs, ra, h, hq, hx⟩ => hq none A H ra (Ext.refl _ _) h
theorem do_some (ha : DE L G n X a ia) : DO L G n X (some a) (some ia) := fun C W tk => po_imp (po_some (ha C W tk)) fun σ H Q ⟨N, δ, A, Qd, Ed, rs, ra, h, hq, hx⟩ =>
  LE.use rs ra h (fun d A1 v1 H1 rv1 ra1 ex1 rs1 q1 => by
    cases d with
    | int i => exact ⟨i, rv_int.mp rv1, hq _ A1 H1 ra1 ex1 q1⟩
    | _ => exact (show False from q1).elim) hx
theorem LO.use {W : WX} {w : WO} {N : Addr → Prop} {δ : DSt} {A : AH} {Ed : XQ} {σ : L2.St} {H : Hp} {Qd : Option Int → AH → Prop} {Q : Option Int → Hp → Prop} (rs : RS L.K A N H δ σ) (ra : RA L A N H) (h : w δ A Qd Ed) (hq : ∀ b A' H', RA L A' N H' → Ext A H A' H' → RS L.K A' N H' δ σ → Qd b A' → Q b H')
    (hx : ∀ x A' H', RA L A' N H' → Ext A H A' H' → Ed x A' → W (L.XV x) none σ H') : LO L W w σ H Q :=
  ⟨N, δ, A, Qd, Ed, rs, ra, h, fun b A' H' r2 x q => hq b A' H' r2 x (rs.stay (x.stay ra)) q, hx⟩
theorem RVs.cut {K : PySem.W.Frag} {A : AH} {N : Addr → Prop} {H : Hp} {ds : List D} {vs : List V} (r : RVs K A N H ds vs) (lo hi : Option Int) : RVs K A N H (cutL ds lo hi) (cutV vs lo hi) := by
  unfold cutL cutV
  rw [← r.length]
  exact (r.drop _).take _
def rCutA (K : PySem.W.Frag) : V → Option Int → Option Int → Hp → VK → Prop := fun x lo hi H Q => (rSlA K x lo hi H Q ∨ rSlL K x lo hi H Q) ∨ rSlS x lo hi H Q
theorem sl_cut : SlR X (rCutA X.K) := SlR.or (SlR.or sl_tupA sl_list) sl_str
theorem cutL_whole {α : Type} {xs : List α} {lo hi : Option Int} (h : HT.sIx xs.length 0 lo = 0 ∧ HT.sIx xs.length xs.length hi = xs.length) : cutL xs lo hi = xs := by
  unfold cutL
  rw [h.1, h.2, List.drop_zero, Nat.sub_zero, List.take_length]
theorem cut_rv {A : AH} {N : Addr → Prop} {H : Hp} {d : D} {v : V} {lo hi : Option Int} {Q : VK} {Qd : QE} (h : dCut d lo hi A Qd) (ra : RA L A N H) (r : RV L.K A N H d v) (k : Kt L A N H Qd Q) : rCutA L.K v lo hi H Q := by
  cases d with
  | tup xs =>
    have h : Qd (.tup (cutL xs lo hi)) A := h
    obtain ⟨q, vs, rfl, h1, h2⟩ := rv_tup.mp r
    refine .inl (.inl ⟨q, vs, rfl, h1, fun w => ?_, fun _ => k.tup ra (h2.cut lo hi) h⟩)
    rw [← h2.length] at w
    rw [cutL_whole w] at h
    exact k.here ra r h
  | rol xs =>
    have h : newL A (cutL xs lo hi) Qd := h
    obtain ⟨q, vs, rfl, h1, h2⟩ := rv_rol.mp r
    exact .inl (.inr ⟨q, vs, rfl, h1.seq, k.lst ra (h2.cut lo hi) h⟩)
  | fl xs =>
    have h : newL A (cutL xs lo hi) Qd := h
    obtain ⟨q, vs, rfl, h1, h2⟩ := rv_fl.mp r
    exact .inl (.inr ⟨q, vs, rfl, .inl h1.1, k.lst ra (h2.cut lo hi) h⟩)
  | ref q =>
    simp only [dCut] at h
    split at h
    · next xs e =>
      obtain ⟨vs, h1, h2⟩ := ra q _ e
      rw [rv_ref.mp r]
      exact .inl (.inr ⟨q, vs, rfl, SqL.of h1, k.lst ra (h2.cut lo hi) h⟩)
    · exact h.elim
  | str z => exact .inr ⟨z, rv_str.mp r, h.1, k.str ra h.2⟩
  | _ => exact (show False from h).elim
theorem de_cut {lo hi : Option Expr} {il ih : Option IE} (ha : DE L G n X a ia) (hl : DO L G n X lo il) (hh : DO L G n X hi ih) : DE L G n X (.Subscript a (.Slice lo hi none p2) pos) (.cut ia il ih) := fun C W tk =>
  pe_imp (pe_slice sl_cut (ha C W tk) (hl C W tk) (hh C W tk)) fun σ H Q ⟨N, δ, A, Qd, Ed, rs, ra, h, hq, hx⟩ =>
    LE.use rs ra h (fun x A1 v1 H1 rv1 ra1 ex1 rs1 q1 => LO.use rs1 ra1 q1 (fun lo A2 H2 ra2 ex2 rs2 q2 => LO.use rs2 ra2 q2 (fun hi A3 H3 ra3 ex3 rs3 q3 => by
      rw [C.K]
      exact cut_rv q3 ra3 (RV.stay (ex3.stay ra2) _ _ (RV.stay (ex2.stay ra1) _ _ rv1)) fun d A' v' H' r1 r2 e q => hq d A' v' H' r1 r2 (((ex1.trans ex2).trans ex3).trans e) q) (XW.ext hx (ex1.trans ex2))) (XW.ext hx ex1)) hx

/-! ### methods of lists -/
/-- a method of a list: its reading by values -/
def DBm (L : Lk) (r : V → List V → Hp → VK → Prop) (m : BM) : Prop := ∀ d ds v vs A N H Q Qd, RV L.K A N H d v → RVs L.K A N H ds vs → RA L A N H → dBm m d ds A Qd → Kt L A N H Qd Q → r v vs H Q
theorem dbm_append : DBm L rAppend .append := by
  intro d ds v vs A N H Q Qd rx rv ra h k
  unfold dBm at h
  split at h
  · next q x e1 =>
    split at h
    · next xs e =>
      obtain ⟨ws, h1, h2⟩ := ra q _ e
      obtain ⟨w, rfl, r⟩ := rvs1 rv
      rw [rv_ref.mp rx]
      exact ⟨q, ws, w, rfl, rfl, h1, by rw [← h2.length]; exact h.1, k.lput ra e (h2.snoc r) (rv_non.mpr rfl) h.2⟩
    · exact h.elim
  all_goals first | exact h.elim | contradiction
def rExtR : V → List V → Hp → VK → Prop := fun x vs H Q => ∃ l b xs zs, x = .ref l ∧ vs = [.ref b] ∧ H l = some (.lst xs) ∧ Rd H b (.lst zs) ∧ xs.length + zs.length ≤ sizeLine ∧ Q .non (upd H l (.lst (xs ++ zs)))
theorem mt_extR {X : Cx} : MtM X "list.extend" rExtR := by
  intro pins s σ H x vs v us Q I rx rv h
  obtain ⟨l, b, xs, zs, rfl, rfl, hH, hB, hz, q⟩ := h
  cases rx
  obtain ⟨u, rfl, ru⟩ := rv.one
  cases ru
  obtain ⟨z, its, n, r, hl, e⟩ := I.lstM hH
  obtain ⟨z2, its2, n2, r2, hl2, e2⟩ := Rd.lstM I hB
  have hsz : its.toArray.size + its2.toArray.size ≤ sizeLine := by rw [List.size_toArray, List.size_toArray]; omega
  have hlong : ¬ (!its.toArray.isEmpty && Builtin.List.listTooLong (its.toArray.size + its2.toArray.size)) = true := by
    rw [notLongL hsz, Bool.and_false]
    exact Bool.false_ne_true
  refine call_meets F.slot_list_extend ⟨_, e, rfl⟩ F.entry_list_extend (F.args_list_extend_2 _ _)
    (AutoSeq1.list_extend_list_list_0 l its.toArray n b its2.toArray n2 hlong (by rw [List.size_toArray]; omega) (by omega)) ⟨e, e2, ?_⟩
  refine ⟨.non, _, I.lset (its' := its ++ its2) hH e (by simp) (r.append r2) ?_, rfl, q⟩
  rw [List.length_append]
  omega
theorem dbm_extend : DBm L rExtR .extend := by
  intro d ds v vs A N H Q Qd rx rv ra h k
  unfold dBm at h
  split at h
  case h_2 q b e1 =>
    split at h
    · next xs ys e e2 =>
      obtain ⟨ws, h1, h2⟩ := ra q _ e
      obtain ⟨us, h3, h4⟩ := ra b _ e2
      obtain ⟨w, rfl, r⟩ := rvs1 rv
      rw [rv_ref.mp rx, rv_ref.mp r]
      exact ⟨q, b, ws, us, rfl, rfl, h1, .inl h3, by rw [← h2.length, ← h4.length]; exact h.1, k.lput ra e (h2.append h4) (rv_non.mpr rfl) h.2⟩
    · exact h.elim
  case h_5 q ys e1 =>
    split at h
    · next xs e =>
      obtain ⟨ws, h1, h2⟩ := ra q _ e
      obtain ⟨w, rfl, r⟩ := rvs1 rv
      obtain ⟨b, us, rfl, h3, h4⟩ := rv_fl.mp r
      rw [rv_ref.mp rx]
      exact ⟨q, b, ws, us, rfl, rfl, h1, h3.1, by rw [← h2.length, ← h4.length]; exact h.1, k.lput ra e (h2.append h4) (rv_non.mpr rfl) h.2⟩
    · exact h.elim
  all_goals first | exact h.elim | contradiction
theorem dbm_pop : DBm L rPop .pop := by
  intro d ds v vs A N H Q Qd rx rv ra h k
  unfold dBm at h
  split at h
  case h_3 q e1 =>
    split at h
    · next xs e =>
      split at h
      · next y ey =>
        obtain ⟨ws, h1, h2⟩ := ra q _ e
        obtain ⟨w, e3, r⟩ := RVs.get h2 ey
        rw [rv_ref.mp rx, rv.nil']
        rw [h2.length] at e3
        have e4 : RVs L.K A N H xs.dropLast ws.dropLast := by rw [List.dropLast_eq_take, List.dropLast_eq_take, h2.length]; exact h2.take _
        exact ⟨q, ws, w, rfl, rfl, h1, e3, k.lput ra e e4 r h⟩
      · exact h.elim
    · exact h.elim
  all_goals first | exact h.elim | contradiction
theorem dbm_popi : DBm L rPopAt .popi := by
  intro d ds v vs A N H Q Qd rx rv ra h k
  unfold dBm at h
  split at h
  case h_4 q i e1 =>
    split at h
    · next xs e =>
      obtain ⟨⟨b1, b2⟩, h⟩ := h
      split at h
      · next j ej =>
        split at h
        · next y ey =>
          obtain ⟨ws, h1, h2⟩ := ra q _ e
          obtain ⟨w, e3, r⟩ := RVs.get h2 ey
          obtain ⟨u, rfl, ru⟩ := rvs1 rv
          rw [rv_ref.mp rx, rv_int.mp ru]
          have sq := (ixN_seq ej).1
          rw [h2.length] at sq
          exact ⟨q, ws, i, j, w, rfl, rfl, h1, b1, b2, sq, e3, k.lput ra e (h2.eraseIdx j) r h⟩
        · exact h.elim
      · exact h.elim
    · exact h.elim
  all_goals first | exact h.elim | contradiction
theorem tyV_of {A : AH} {N : Addr → Prop} {H : Hp} {d : D} {v : V} (ra : RA L A N H) (r : RV L.K A N H d v) (h : isT .list A d) : tyV L.K "list" v H := by
  cases d with
  | ref q =>
    rw [rv_ref.mp r]
    simp only [isT] at h
    split at h
    · next xs e => obtain ⟨ws, h1, _⟩ := ra q _ e; exact .inl ⟨rfl, ws, SqL.of h1⟩
    all_goals exact h.elim
  | _ => exact (show False from h).elim
variable {o : Expr} {io : IE} {name : Str} {apos cpos : Pos} {id : String} {r : V → List V → Hp → VK → Prop} {m : BM}
theorem de_bm (pa : PlainAttrs "list") (slot : Slot "list" name id) (hty : typeOf (.builtin id) = pure (.type "method_descriptor")) (hm : MtM X id r) (hr : DBm L r m) (ht : tyB m = .list) (ho : DE L G n X o io) (ha : DA L G n X (e :: es) ies)
    (hbase : attributeBase o name X.env (eval o X.env) = eval o X.env)
    (hfew : ((backTo cpos (starEach (e :: es) X.env)).all (fun x => !x.1) && (backToKw cpos (keywordEach [] X.env)).all (fun x => x.1.isSome) && decide ((e :: es).length + ([] : List Keyword).length + (if ([] : List Keyword).isEmpty then 0 else 1) < 30)) = true)
    (hline : (apos.endLine == cpos.line) = true) (hs : starEach (e :: es) X.env = (false, eval e X.env) :: starEach es X.env) (hplain : (backTo cpos (starEach es X.env)).any (·.1) = false) :
    DE L G n X (.Call (.Attribute o name apos) (e :: es) [] cpos) (.bm m io ies) := fun C W tk =>
  pe_imp (pe_bm pa slot hty hm (ho C W tk) (ha C W tk) hbase hfew hline hs hplain) fun σ H Q ⟨N, δ, A, Qd, Ed, rs, ra, h, hq, hx⟩ =>
    LE.use rs ra h (fun x A1 v1 H1 rv1 ra1 ex1 rs1 q1 => ⟨by rw [C.K]; exact tyV_of ra1 rv1 (by rw [← ht]; exact q1.1), LAs.use rs1 ra1 q1.2 (fun ds A2 vs H2 rv2 ra2 ex2 rs2 q2 =>
      hr x ds v1 vs A2 N H2 Q Qd (RV.stay (ex2.stay ra1) _ _ rv1) rv2 ra2 q2 fun d A' v' H' r1 r2 e q => hq d A' v' H' r1 r2 ((ex1.trans ex2).trans e) q) (XW.ext hx ex1)⟩) hx
theorem de_bm0 (pa : PlainAttrs "list") (slot : Slot "list" name id) (hty : typeOf (.builtin id) = pure (.type "method_descriptor")) (hm : MtM X id r) (hr : DBm L r m) (ht : tyB m = .list) (ho : DE L G n X o io)
    (hbase : attributeBase o name X.env (eval o X.env) = eval o X.env) (hline : (apos.endLine == cpos.line) = true) : DE L G n X (.Call (.Attribute o name apos) [] [] cpos) (.bm m io []) := fun C W tk =>
  pe_imp (pe_bm0 pa slot hty hm (ho C W tk) hbase hline) fun σ H Q ⟨N, δ, A, Qd, Ed, rs, ra, h, hq, hx⟩ =>
    LE.use rs ra h (fun x A1 v1 H1 rv1 ra1 ex1 rs1 q1 => ⟨by rw [C.K]; exact tyV_of ra1 rv1 (by rw [← ht]; exact q1.1), hr x [] v1 [] A1 N H1 Q Qd rv1 .nil ra1 q1.2 fun d A' v' H' r1 r2 e q => hq d A' v' H' r1 r2 (ex1.trans e) q⟩) hx

/-! ### calls of defs -/
theorem de_call {f : Nat} {fd : FnD} (hG : G.fn f = some fd) (hg : Gl X x) (hm : X.mg x = some (.ref (L.FA f))) (ha : DA L G n X (e :: es) ies) (hdb : (x == ("__debug__" : Str)) = false)
    (he : starEach (e :: es) X.env = (false, eval e X.env) :: starEach es X.env) (hpl : (backTo pos (starEach es X.env)).any (·.1) = false) : DE L G n X (.Call (.Name x p) (e :: es) [] pos) (.call f ies) := fun C W tk => by
  obtain ⟨fdt, ps, F, hb, hk⟩ := C.fns f fd hG
  refine ⟨fun pins s σ H Q I h => ?_⟩
  obtain ⟨N, δ, A, Qd, Ed, rs, ra, h, hq, hx⟩ := h
  refine wpAny_Call_Name_kw (ld_glob I hg hm ?_ hdb)
  refine PySem.W.callWith_K (h₀ := X.base) I.ok.mod.kin hk (thn ((ha C W tk).run pos pins s σ H (fun vs H1 => spD L (callN G n) f vs H1 Q fun cls d H' => W cls d σ H') I (LAs.use rs ra h (fun ds A1 vs H1 rv1 ra1 ex1 rs1 q1 =>
    ⟨N, ds, A1, Qd, Ed, rv1, ra1, q1, fun d A' v H' r1 r2 e q => hq d A' v H' r1 r2 (ex1.trans e) q, XW.ext hx ex1⟩) hx)) fun us s1 ⟨vs, H1, I1, r, q⟩ => ⟨I1.kIn, ?_⟩) he hpl
  have hl : (us ++ []).length = ps.length := by rw [List.append_nil, ← r.length]; exact F.len _ _ _ _ q
  have hb' := hb s1 us I1.kIn hl
  rw [List.append_nil] at hb'
  refine wpAny_call (codeAny_mono (F.run X.A X.stack s1 H1 ⟨us, []⟩ us vs Q _ (C.room.mono (Nat.le_succ _)) I1.env0 hb' r q) fun rr s2 hq2 => ?_)
  cases rr with
  | error u => exact tk u s2 (XE.of_call I1 (fun _ _ _ z => z) hq2)
  | ok fl =>
    cases fl with
    | ret u => exact I1.after hq2
    | next => exact False.elim hq2
    | brk => exact False.elim hq2
    | cont => exact False.elim hq2
end
end DL

set_option Elab.async false
set_option linter.all false
set_option maxRecDepth 100000
/-! targets, what is walked, comprehensions -/
namespace DL
open PySem PySem.Spec PyProof.Rows L2

/-! ### targets -/
def Only (is : List Nat) (σ σ' : L2.St) : Prop := σ'.length = σ.length ∧ ∀ j, j ∉ is → σ'[j]? = σ[j]?
theorem Only.refl {is : List Nat} {σ : L2.St} : Only is σ σ := ⟨rfl, fun _ _ => rfl⟩
theorem Only.trans {is js : List Nat} {σ σ1 σ2 : L2.St} (a : Only is σ σ1) (b : Only js σ1 σ2) : Only (is ++ js) σ σ2 := ⟨b.1.trans a.1, fun j h => by
  rw [List.mem_append, not_or] at h
  rw [b.2 j h.2, a.2 j h.1]⟩
mutual
def slots : Tg → List Nat
  | .nm i => [i]
  | .tp ts => slotss ts
def slotss : List Tg → List Nat
  | [] => []
  | t :: ts => slots t ++ slotss ts
end
def LG (L : Lk) (t : Tg) : TG := fun v σ H Q => ∃ (N : Addr → Prop) (d : D) (δ : DSt) (A : AH) (Qd : DSt → Prop), RV L.K A N H d v ∧ RS L.K A N H δ σ ∧ RA L A N H ∧ gAsg t d δ A Qd ∧ ∀ δ' σ', RS L.K A N H δ' σ' → Only (slots t) σ σ' → Qd δ' → Q σ' H
def LGs (L : Lk) (ts : List Tg) : TGs := fun vs σ H Q => ∃ (N : Addr → Prop) (ds : List D) (δ : DSt) (A : AH) (Qd : DSt → Prop), RVs L.K A N H ds vs ∧ RS L.K A N H δ σ ∧ RA L A N H ∧ gAsgs ts ds δ A Qd ∧ ∀ δ' σ', RS L.K A N H δ' σ' → Only (slotss ts) σ σ' → Qd δ' → Q σ' H
def DG (L : Lk) (G : Gm) (n : Nat) (X : Cx) (e : Expr) (t : Tg) : Prop := Cn L G n X → PG X e (LG L t)
def DGs (L : Lk) (G : Gm) (n : Nat) (X : Cx) (es : List Expr) (ts : List Tg) : Prop := Cn L G n X → PGs X es (LGs L ts)
theorem RS.set {K : PySem.W.Frag} {A : AH} {N : Addr → Prop} {H : Hp} {δ : DSt} {σ : L2.St} {d : D} {v : V} (r : RS K A N H δ σ) (rv : RV K A N H d v) (i : Nat) : RS K A N H (δ.set i (some d)) (σ.set i (some v)) := by
  refine ⟨by rw [List.length_set, List.length_set]; exact r.1, fun j e h => ?_⟩
  by_cases hj : i = j
  · subst hj
    by_cases hl : i < δ.length
    · rw [List.getElem?_set_self hl] at h
      cases h
      exact ⟨v, List.getElem?_set_self (by rw [r.1]; exact hl), rv⟩
    · rw [List.getElem?_eq_none (by rw [List.length_set]; omega)] at h
      cases h
  · rw [List.getElem?_set_ne hj] at h
    obtain ⟨u, e1, e2⟩ := r.2 j e h
    exact ⟨u, by rw [List.getElem?_set_ne hj]; exact e1, e2⟩
theorem RS.kill {K : PySem.W.Frag} {A : AH} {N : Addr → Prop} {H : Hp} {δ : DSt} {σ : L2.St} (r : RS K A N H δ σ) (i : Nat) : RS K A N H (δ.set i none) (σ.set i none) := by
  refine ⟨by rw [List.length_set, List.length_set]; exact r.1, fun j e h => ?_⟩
  by_cases hj : i = j
  · subst hj
    by_cases hl : i < δ.length
    · rw [List.getElem?_set_self hl] at h; cases h
    · rw [List.getElem?_eq_none (by rw [List.length_set]; omega)] at h; cases h
  · rw [List.getElem?_set_ne hj] at h
    obtain ⟨u, e1, e2⟩ := r.2 j e h
    exact ⟨u, by rw [List.getElem?_set_ne hj]; exact e1, e2⟩
theorem RS.wipe {K : PySem.W.Frag} {A : AH} {N : Addr → Prop} {H : Hp} {δ : DSt} {σ : L2.St} (r : RS K A N H δ σ) : ∀ vs : List Nat, RS K A N H (wipeD δ vs) (wipe σ vs)
  | [] => r
  | v :: vs => by unfold wipeD L2.wipe; exact RS.kill (RS.wipe r vs) v
section
variable {L : Lk} {G : Gm} {n : Nat} {X : Cx} {x : Str} {pos : Pos} {e : Expr} {es : List Expr} {t : Tg} {ts : List Tg}
theorem dg_name {i : Nat} (hi : X.N[i]? = some x) (hx : Loc X.env.scope x) (hf : X.fn x = true ∨ X.env.scope.names.lookup x = some .local) : DG L G n X (.Name x pos) (.nm i) := fun C =>
  ⟨fun pins s σ H v u Q I r ⟨N, d, δ, A, Qd, rv, rs, ra, h, hq⟩ => (pg_name C.nd hi hx hf).run pins s σ H v u Q I r (hq _ _ (rs.set rv i) ⟨List.length_set, fun j hj => List.getElem?_set_ne (fun z => hj (by rw [z]; exact List.mem_singleton.mpr rfl))⟩ h)⟩
theorem dgs_nil : DGs L G n X [] [] := fun C =>
  ⟨fun pins s σ H vs us Q I r ⟨N, ds, δ, A, Qd, rv, rs, ra, h, hq⟩ => by
    obtain ⟨rfl, h⟩ := h
    rw [rv.nil'] at r
    exact pgs_nil.run pins s σ H [] us Q I r ⟨rfl, hq _ _ rs .refl h⟩⟩
theorem dgs_cons (h1 : DG L G n X e t) (h2 : DGs L G n X es ts) (hs : (assignEach (e :: es) X.env).map (·.2) = assign e X.env :: (assignEach es X.env).map (·.2)) : DGs L G n X (e :: es) (t :: ts) := fun C =>
  ⟨fun pins s σ H vs us Q I r ⟨N, ds, δ, A, Qd, rv, rs, ra, h, hq⟩ => by
    cases ds with
    | nil => exact (show False from h).elim
    | cons d dr =>
      obtain ⟨v, vr, rfl, r1, r2⟩ := rv.cons'
      have h : gAsg t d δ A (fun δ' => gAsgs ts dr δ' A Qd) := h
      exact (pgs_cons (h1 C) (h2 C) hs).run pins s σ H (v :: vr) us Q I r ⟨v, vr, rfl, N, d, δ, A, _, r1, rs, ra, h, fun δ1 σ1 rs1 on1 q1 =>
        ⟨N, dr, δ1, A, Qd, r2, rs1, ra, q1, fun δ2 σ2 rs2 on2 q2 => hq δ2 σ2 rs2 (on1.trans on2) q2⟩⟩⟩
theorem gAsgs_len : ∀ {ts : List Tg} {xs : List D} {δ : DSt} {A : AH} {Q : DSt → Prop}, gAsgs ts xs δ A Q → True := fun _ => True.intro
mutual
theorem gAsg_mono : ∀ (t : Tg) (x : D) (δ : DSt) (A : AH) (Q Q' : DSt → Prop), (∀ δ, Q δ → Q' δ) → gAsg t x δ A Q → gAsg t x δ A Q'
  | .nm i, x, δ, A, Q, Q', k, h => by unfold gAsg at *; exact k _ h
  | .tp ts, x, δ, A, Q, Q', k, h => by
    unfold gAsg at *
    split at h
    · next xs e => exact gAsgs_mono ts xs δ A Q Q' k h
    · exact h.elim
theorem gAsgs_mono : ∀ (ts : List Tg) (xs : List D) (δ : DSt) (A : AH) (Q Q' : DSt → Prop), (∀ δ, Q δ → Q' δ) → gAsgs ts xs δ A Q → gAsgs ts xs δ A Q'
  | [], xs, δ, A, Q, Q', k, h => by unfold gAsgs at *; exact ⟨h.1, k _ h.2⟩
  | t :: ts, xs, δ, A, Q, Q', k, h => by
    unfold gAsgs at *
    split at h
    · next x r => exact gAsg_mono t x δ A _ _ (fun δ' q => gAsgs_mono ts r δ' A Q Q' k q) h
    · exact h.elim
end
mutual
theorem gAsg_any : ∀ (t : Tg) (x : D) (δ : DSt) (A : AH) (Q : DSt → Prop), gAsg t x δ A Q → ∃ δ', Q δ'
  | .nm i, x, δ, A, Q, h => by unfold gAsg at h; exact ⟨_, h⟩
  | .tp ts, x, δ, A, Q, h => by
    unfold gAsg at h
    split at h
    · next xs e => obtain ⟨h1, _⟩ := gAsgs_any ts xs δ A Q h; exact h1
    · exact h.elim
theorem gAsgs_any : ∀ (ts : List Tg) (xs : List D) (δ : DSt) (A : AH) (Q : DSt → Prop), gAsgs ts xs δ A Q → (∃ δ', Q δ') ∧ xs.length = ts.length
  | [], xs, δ, A, Q, h => by unfold gAsgs at h; exact ⟨⟨_, h.2⟩, by rw [h.1]; rfl⟩
  | t :: ts, xs, δ, A, Q, h => by
    unfold gAsgs at h
    split at h
    · next x r =>
      obtain ⟨δ1, h1⟩ := gAsg_any t x δ A _ h
      obtain ⟨h2, h3⟩ := gAsgs_any ts r δ1 A Q h1
      exact ⟨h2, by rw [List.length_cons, List.length_cons, h3]⟩
    · exact h.elim
end
theorem dg_tup {k : Nat} (h : DGs L G n X es ts) (hn : (assignEach es X.env).length = ts.length) (hst : (assignEach es X.env).findIdx? (·.1) = none) : DG L G n X (.Tuple es k pos) (.tp ts) := fun C =>
  ⟨fun pins s σ H v u Q I r ⟨N, d, δ, A, Qd, rv, rs, ra, h1, hq⟩ => by
    unfold gAsg at h1
    split at h1
    · next xs e =>
      obtain ⟨a, vs, rfl, hs, h2⟩ := seqD_rv e ra rv
      have hl : vs.length = ts.length := by rw [← h2.length]; exact (gAsgs_any ts xs δ A Qd h1).2
      rw [← C.K] at hs
      rcases hs with hs | hs
      · exact (pg_lst C.calm (h C) hn hst).run pins s σ H (.ref a) u Q I r ⟨a, vs, rfl, hs, hl, N, xs, δ, A, Qd, h2, rs, ra, h1, hq⟩
      · exact (pg_tup C.calm (h C) hn hst).run pins s σ H (.ref a) u Q I r ⟨a, vs, rfl, hs, hl, N, xs, δ, A, Qd, h2, rs, ra, h1, hq⟩
    · exact h1.elim⟩
end

/-! ### what is walked -/
structure DWk (L : Lk) (N0 : Addr → Prop) (J : It) (xs : List D) (g : AH → Prop) (A0 : AH) (H0 : Hp) : Prop where
  goes : ∀ i A N H, i < xs.length → RA L A N H → Stay A0 N0 H0 A N H → g A → J.go i H
  stops : ∀ A N H, RA L A N H → Stay A0 N0 H0 A N H → g A → J.stop xs.length H
  yields : ∀ i x A N H H', i < xs.length → RA L A N H → Stay A0 N0 H0 A N H → g A → J.yld i H x H' → ∃ d, xs[i]? = some d ∧ RV L.K A N H' d x ∧ RA L A N H' ∧ Ext A H A H'
def LI (L : Lk) (W : WX) (k : SrcK) (w : WA) : TI := fun σ H R => ∃ (N : Addr → Prop) (δ : DSt) (A : AH) (Rd : List D → (AH → Prop) → AH → Prop) (Ed : XQ), RS L.K A N H δ σ ∧ RA L A N H ∧ w δ A (fun ds A1 => dSrc k ds A1 fun xs g => Rd xs g A1) Ed ∧
  (∀ xs g A' H' J, DWk L N J xs g A' H' → RA L A' N H' → Ext A H A' H' → Rd xs g A' → R J H') ∧ ∀ x A' H', RA L A' N H' → Ext A H A' H' → Ed x A' → W (L.XV x) none σ H'
def DI (L : Lk) (G : Gm) (n : Nat) (X : Cx) (tg iter : Expr) (k : SrcK) (ies : List IE) : Prop := Cn L G n X → ∀ W, Takes X W → PI X tg iter (LI L W k (wpEs (callN G n) G ies))
theorem pi_imp {X : Cx} {tg iter : Expr} {t t' : TI} (h : PI X tg iter t) (k : ∀ σ H R, t' σ H R → t σ H R) : PI X tg iter t' := ⟨fun pins s σ H R I q => h.run pins s σ H R I (k σ H R q)⟩
section
variable {L : Lk} {G : Gm} {n : Nat} {X : Cx} {tg a b e : Expr} {ia ib : IE} {pos p : Pos} {A0 : AH} {N0 : Addr → Prop} {H0 : Hp}
theorem dwk_tup {q : Addr} {vs : List V} {ds : List D} (ra0 : RA L A0 N0 H0) (h : SqT L.K H0 q vs) (r : RVs L.K A0 N0 H0 ds vs) : DWk L N0 (Itt L.K q) ds (fun _ => True) A0 H0 := by
  have st : ∀ {A N H}, Stay A0 N0 H0 A N H → SqT L.K H q vs := fun x => DL.SqT.stay x h
  refine ⟨fun i A N H hi ra x _ => ?_, fun A N H ra x _ => ⟨vs, st x, by rw [r.length]; exact Nat.le_refl _⟩, fun i y A N H H' hi ra x _ hy => ?_⟩
  · obtain ⟨v, e, _⟩ := RVs.get r (List.getElem?_eq_getElem hi)
    exact ⟨vs, v, st x, e⟩
  · obtain ⟨rfl, hy⟩ := hy
    obtain ⟨d, e1, e2⟩ := RVs.gets r (hy vs (st x))
    exact ⟨d, e1, RV.stay x _ _ e2, ra, Ext.refl _ _⟩
theorem dwk_rol {q : Addr} {vs : List V} {ds : List D} (ra0 : RA L A0 N0 H0) (h : SqR L.K A0 N0 H0 q vs) (r : RVs L.K A0 N0 H0 ds vs) : DWk L N0 (Itl L.K q) ds (fun _ => True) A0 H0 := by
  have st : ∀ {A N H}, Stay A0 N0 H0 A N H → SqL L.K H q vs := fun x => (DL.SqR.stay x h).seq
  refine ⟨fun i A N H hi ra x _ => ?_, fun A N H ra x _ => ⟨vs, st x, by rw [r.length]; exact Nat.le_refl _⟩, fun i y A N H H' hi ra x _ hy => ?_⟩
  · obtain ⟨v, e, _⟩ := RVs.get r (List.getElem?_eq_getElem hi)
    exact ⟨vs, v, st x, e⟩
  · obtain ⟨rfl, hy⟩ := hy
    obtain ⟨d, e1, e2⟩ := RVs.gets r (hy vs (st x))
    exact ⟨d, e1, RV.stay x _ _ e2, ra, Ext.refl _ _⟩
theorem dwk_fl {q : Addr} {vs : List V} {ds : List D} (ra0 : RA L A0 N0 H0) (h : RdL A0 N0 H0 q vs) (r : RVs L.K A0 N0 H0 ds vs) : DWk L N0 (Itl L.K q) ds (fun _ => True) A0 H0 := dwk_rol ra0 (.inl h) r
theorem dwk_lst {q : Addr} {ds : List D} : DWk L N0 (Itl L.K q) ds (fun A => A q = some (.lst ds)) A0 H0 := by
  refine ⟨fun i A N H hi ra x g => ?_, fun A N H ra x g => ?_, fun i y A N H H' hi ra x g hy => ?_⟩
  · obtain ⟨vs, h1, h2⟩ := ra q _ g
    obtain ⟨v, e, _⟩ := RVs.get h2 (List.getElem?_eq_getElem hi)
    exact ⟨vs, v, SqL.of h1, e⟩
  · obtain ⟨vs, h1, h2⟩ := ra q _ g
    exact ⟨vs, SqL.of h1, by rw [h2.length]; exact Nat.le_refl _⟩
  · obtain ⟨vs, h1, h2⟩ := ra q _ g
    obtain ⟨rfl, hy⟩ := hy
    obtain ⟨d, e1, e2⟩ := RVs.gets h2 (hy vs (SqL.of h1))
    exact ⟨d, e1, e2, ra, Ext.refl _ _⟩
theorem dwk_str {z : Str} : DWk L N0 (Its z) (z.cps.toList.map fun c => .str ⟨#[c]⟩) (fun _ => True) A0 H0 := by
  refine ⟨fun i A N H hi ra x _ => ?_, fun A N H ra x _ => ?_, fun i y A N H H' hi ra x _ hy => ?_⟩
  · have hi' : i < z.cps.size := by simpa using hi
    exact hi'
  · show z.cps.size ≤ _
    simp
  · obtain ⟨rfl, c, hc, rfl⟩ := hy
    refine ⟨.str ⟨#[c]⟩, ?_, rv_str.mpr rfl, ra, Ext.refl _ _⟩
    rw [List.getElem?_map, Array.getElem?_toList, hc]; rfl
theorem dwk_rng {lo hi : Int} : DWk L N0 (Itr lo (hi - lo).toNat) (rgD lo hi) (fun _ => True) A0 H0 := by
  have hl : (rgD lo hi).length = (hi - lo).toNat := by unfold rgD; rw [List.length_map, List.length_range]
  refine ⟨fun i A N H hi ra x _ => ?_, fun A N H ra x _ => ?_, fun i y A N H H' hi ra x _ hy => ?_⟩
  · rw [hl] at hi; exact hi
  · show _ ≤ _
    rw [hl]; exact Nat.le_refl _
  · obtain ⟨rfl, rfl⟩ := hy
    rw [hl] at hi
    refine ⟨.int (lo + (i : Nat)), ?_, rv_int.mpr rfl, ra, Ext.refl _ _⟩
    unfold rgD
    rw [List.getElem?_map, List.getElem?_range hi]; rfl
theorem dwk_zipT {q q' : Addr} {vs ws : List V} {ds es : List D} (ra0 : RA L A0 N0 H0) (h : SqT L.K H0 q vs) (r : RVs L.K A0 N0 H0 ds vs) (h' : SqT L.K H0 q' ws) (r' : RVs L.K A0 N0 H0 es ws) : DWk L N0 (RZ.ItzT L.K q q') (List.zipWith (fun x y => .tup [x, y]) ds es) (fun _ => True) A0 H0 := by
  have st : ∀ {A N H}, Stay A0 N0 H0 A N H → SqT L.K H q vs := fun x => DL.SqT.stay x h
  have st' : ∀ {A N H}, Stay A0 N0 H0 A N H → SqT L.K H q' ws := fun x => DL.SqT.stay x h'
  have hl : (List.zipWith (fun x y => D.tup [x, y]) ds es).length = min vs.length ws.length := by rw [List.length_zipWith, r.length, r'.length]
  refine ⟨fun i A N H hi ra x _ => ?_, fun A N H ra x _ => ?_, fun i y A N H H' hi ra x _ hy => ?_⟩
  · rw [hl] at hi
    have h1 : i < vs.length := by omega
    have h2 : i < ws.length := by omega
    exact ⟨vs, ws, vs[i], ws[i], st x, st' x, by simp [h1], by simp [h2]⟩
  · exact ⟨vs, ws, st x, st' x, by rw [hl]; omega⟩
  · obtain ⟨T, y1, y2, rfl, nT, rfl, f1, f2⟩ := hy
    obtain ⟨d1, e1, e2⟩ := RVs.gets r (f1 vs (st x))
    obtain ⟨d2, e3, e4⟩ := RVs.gets r' (f2 ws (st' x))
    have s1 := x
    have s2 : Stay A N H A N (upd H T (.tup [y1, y2])) := (Ext.tupNew ra nT).stay ra
    refine ⟨.tup [d1, d2], ?_, rv_tup.mpr ⟨T, _, rfl, SqT.of upd_same, .cons (RV.stay s2 _ _ (RV.stay s1 _ _ e2)) (.cons (RV.stay s2 _ _ (RV.stay s1 _ _ e4)) .nil)⟩, ra.tupNew nT, Ext.tupNew ra nT⟩
    rw [List.getElem?_zipWith, e1, e3]
theorem dwk_zipL {q q' : Addr} {vs ws : List V} {ds es : List D} (ra0 : RA L A0 N0 H0) (h : RdL A0 N0 H0 q vs) (r : RVs L.K A0 N0 H0 ds vs) (h' : RdL A0 N0 H0 q' ws) (r' : RVs L.K A0 N0 H0 es ws) : DWk L N0 (Itz L.K q q') (List.zipWith (fun x y => .tup [x, y]) ds es) (fun _ => True) A0 H0 := by
  have st : ∀ {A N H}, Stay A0 N0 H0 A N H → SqL L.K H q vs := fun x => .inl (x.2.1 _ _ h).1
  have st' : ∀ {A N H}, Stay A0 N0 H0 A N H → SqL L.K H q' ws := fun x => .inl (x.2.1 _ _ h').1
  have hl : (List.zipWith (fun x y => D.tup [x, y]) ds es).length = min vs.length ws.length := by rw [List.length_zipWith, r.length, r'.length]
  refine ⟨fun i A N H hi ra x _ => ?_, fun A N H ra x _ => ?_, fun i y A N H H' hi ra x _ hy => ?_⟩
  · rw [hl] at hi
    have h1 : i < vs.length := by omega
    have h2 : i < ws.length := by omega
    exact ⟨vs, ws, vs[i], ws[i], st x, st' x, by simp [h1], by simp [h2]⟩
  · exact ⟨vs, ws, st x, st' x, by rw [hl]; omega⟩
  · obtain ⟨T, y1, y2, rfl, nT, rfl, f1, f2⟩ := hy
    obtain ⟨d1, e1, e2⟩ := RVs.gets r (f1 vs (st x))
    obtain ⟨d2, e3, e4⟩ := RVs.gets r' (f2 ws (st' x))
    have s1 := x
    have s2 : Stay A N H A N (upd H T (.tup [y1, y2])) := (Ext.tupNew ra nT).stay ra
    refine ⟨.tup [d1, d2], ?_, rv_tup.mpr ⟨T, _, rfl, SqT.of upd_same, .cons (RV.stay s2 _ _ (RV.stay s1 _ _ e2)) (.cons (RV.stay s2 _ _ (RV.stay s1 _ _ e4)) .nil)⟩, ra.tupNew nT, Ext.tupNew ra nT⟩
    rw [List.getElem?_zipWith, e1, e3]
theorem di_seq (ha : DE L G n X a ia) : DI L G n X tg a .seq [ia] := fun C W tk => by
  refine ⟨fun pins s σ H R I h => ?_⟩
  obtain ⟨N, δ, A, Rd, Ed, rs, ra, h, hq, hx⟩ := h
  refine thn ((ha C W tk).run pins s σ H (fun v H' => ∃ d A', RV L.K A' N H' d v ∧ RA L A' N H' ∧ Ext A H A' H' ∧ dSrc .seq [d] A' fun xs g => Rd xs g A') I (LE.use rs ra h (fun d A1 v1 H1 rv1 ra1 ex1 rs1 q1 => ⟨d, A1, rv1, ra1, ex1, q1⟩) hx)) fun v s1 ⟨y, H1, I1, r1, d, A1, rv1, ra1, ex1, q1⟩ => ?_
  have fresh : ∀ {b : Addr}, b ∈ [s1.heap.objs.size] → FpOk X pins H1 b := fun {b} hb => by
    obtain rfl : b = s1.heap.objs.size := by simpa using hb
    exact I1.fpOk (Nat.le_refl _) (I1.hok.fresh (Nat.le_refl _))
  have list : ∀ {q vs}, y = .ref q → SqL X.K H1 q vs → R (Itl L.K q) H1 → wpAny (model X.prog X.w) X.A (pyIter v) (PIE X pins σ tg R) X.xe s1 := fun {q vs} e hs hr => by
    subst e
    cases r1
    obtain ⟨its, rv, pl, hz⟩ := I1.list hs
    refine wpAny_pyIter_list pl.isList ⟨s1.heap.objs.size, [s1.heap.objs.size], _, _, H1, rfl, I1.kept (t' := s1.toks) fun b o e => Heap.get?_push_of_some _ e, turn_list q _, ⟨_, Heap.get?_push_size _ rfl, rfl, rfl⟩, fun b hb => fresh hb, by rw [C.K]; exact hr⟩
  cases d with
  | tup xs =>
    obtain ⟨q, vs, rfl, h1, h2⟩ := rv_tup.mp rv1
    cases r1
    have h3 := h1
    rw [← C.K] at h3
    obtain ⟨its, rv, pl, hz⟩ := I1.tuple h3
    refine wpAny_pyIter_tuple (show s1.heap.IsTuple q its.toArray from pl) ⟨s1.heap.objs.size, [s1.heap.objs.size], _, _, H1, rfl, I1.kept (t' := s1.toks) fun b o e => Heap.get?_push_of_some _ e, turn_tuple q _, ⟨_, Heap.get?_push_size _ rfl, rfl, rfl⟩, fun b hb => fresh hb, ?_⟩
    rw [C.K]
    exact hq xs _ A1 H1 _ (dwk_tup ra1 h1 h2) ra1 ex1 q1
  | rol xs =>
    obtain ⟨q, vs, e, h1, h2⟩ := rv_rol.mp rv1
    exact list e (by rw [C.K]; exact h1.seq) (hq xs _ A1 H1 _ (dwk_rol ra1 h1 h2) ra1 ex1 q1)
  | fl xs =>
    obtain ⟨q, vs, e, h1, h2⟩ := rv_fl.mp rv1
    exact list e (.inl h1.1) (hq xs _ A1 H1 _ (dwk_fl ra1 h1 h2) ra1 ex1 q1)
  | ref q =>
    simp only [dSrc] at q1
    split at q1
    · next xs e =>
      obtain ⟨vs, h1, h2⟩ := ra1 q _ e
      exact list (rv_ref.mp rv1) (SqL.of h1) (hq xs _ A1 H1 _ dwk_lst ra1 ex1 q1)
    · exact q1.elim
  | _ => exact (show False from q1).elim
theorem di_rng1 (hg : Gl X "range") (hm : X.mg "range" = none) (ha : DE L G n X a ia) (hs : starEach [a] X.env = (false, eval a X.env) :: starEach [] X.env) : DI L G n X tg (.Call (.Name "range" p) [a] [] pos) .rng [ia] := fun C W tk =>
  pi_imp (pi_range1 hg hm (pa_cons (ha C W tk) pa_nil hs) hs) fun σ H R ⟨N, δ, A, Rd, Ed, rs, ra, h, hq, hx⟩ =>
    LE.use rs ra h (fun d A1 v1 H1 rv1 ra1 ex1 rs1 q1 => by
      cases d with
      | int j =>
        have q1 : (-(2 ^ 62) ≤ (0 : Int) ∧ (0 : Int) < 2 ^ 62 ∧ -(2 ^ 62) ≤ j ∧ j < 2 ^ 62) ∧ Rd (rgD 0 j) (fun _ => True) A1 := q1
        have w := dwk_rng (L := L) (N0 := N) (lo := 0) (hi := j) (A0 := A1) (H0 := H1)
        rw [Int.sub_zero] at w
        exact ⟨j, by rw [rv_int.mp rv1], q1.1.2.2.1, q1.1.2.2.2, hq _ _ A1 H1 _ w ra1 ex1 q1.2⟩
      | _ => exact (show False from q1).elim) hx
theorem di_rng2 (hg : Gl X "range") (hm : X.mg "range" = none) (ha : DE L G n X a ia) (hb : DE L G n X b ib) (hs : starEach [a, b] X.env = (false, eval a X.env) :: starEach [b] X.env) (hs2 : starEach [b] X.env = (false, eval b X.env) :: starEach [] X.env) : DI L G n X tg (.Call (.Name "range" p) [a, b] [] pos) .rng [ia, ib] := fun C W tk =>
  pi_imp (pi_range2 hg hm (pa_cons (ha C W tk) (pa_cons (hb C W tk) pa_nil hs2) hs) (hs.trans (by rw [hs2]; rfl)) hs2) fun σ H R ⟨N, δ, A, Rd, Ed, rs, ra, h, hq, hx⟩ =>
    LE.use rs ra h (fun d A1 v1 H1 rv1 ra1 ex1 rs1 q1 => LE.use rs1 ra1 q1 (fun d2 A2 v2 H2 rv2 ra2 ex2 rs2 q2 => by
      have rv1' := RV.stay (ex2.stay ra1) _ _ rv1
      cases d with
      | int i =>
        cases d2 with
        | int j =>
          have q2 : (-(2 ^ 62) ≤ i ∧ i < 2 ^ 62 ∧ -(2 ^ 62) ≤ j ∧ j < 2 ^ 62) ∧ Rd (rgD i j) (fun _ => True) A2 := q2
          exact ⟨i, j, by rw [rv_int.mp rv1', rv_int.mp rv2], q2.1, hq _ _ A2 H2 _ dwk_rng ra2 (ex1.trans ex2) q2.2⟩
        | _ => exact (show False from q2).elim
      | _ => cases d2 <;> exact (show False from q2).elim) (XW.ext hx ex1)) hx
theorem di_zip {elts : List Expr} {kk : Nat} {tpos : Pos} (hg : Gl X "zip") (hm : X.mg "zip" = none) (ha : DE L G n X a ia) (hb : DE L G n X b ib) (hs : starEach [a, b] X.env = (false, eval a X.env) :: starEach [b] X.env) (hs2 : starEach [b] X.env = (false, eval b X.env) :: starEach [] X.env)
    (hpl : (backTo pos (starEach [b] X.env)).any (·.1) = false) : DI L G n X (.Tuple elts kk tpos) (.Call (.Name "zip" p) [a, b] [] pos) .zip [ia, ib] := fun C W tk =>
  pi_imp (RZ.pi_zipA hg hm (pa_cons (ha C W tk) (pa_cons (hb C W tk) pa_nil hs2) hs) hs hpl) fun σ H R ⟨N, δ, A, Rd, Ed, rs, ra, h, hq, hx⟩ =>
    LE.use rs ra h (fun d A1 v1 H1 rv1 ra1 ex1 rs1 q1 => LE.use rs1 ra1 q1 (fun d2 A2 v2 H2 rv2 ra2 ex2 rs2 q2 => by
      have rv1' := RV.stay (ex2.stay ra1) _ _ rv1
      cases d with
      | tup xs =>
        cases d2 with
        | tup ys =>
          obtain ⟨q, vs, rfl, h1, h2⟩ := rv_tup.mp rv1'
          obtain ⟨q', ws, rfl, h3, h4⟩ := rv_tup.mp rv2
          rw [C.K]
          exact ⟨q, q', vs, ws, rfl, .inr ⟨h1, h3, hq _ _ A2 H2 _ (dwk_zipT ra2 h1 h2 h3 h4) ra2 (ex1.trans ex2) q2⟩⟩
        | _ => exact (show False from q2).elim
      | fl xs =>
        cases d2 with
        | fl ys =>
          obtain ⟨q, vs, rfl, h1, h2⟩ := rv_fl.mp rv1'
          obtain ⟨q', ws, rfl, h3, h4⟩ := rv_fl.mp rv2
          rw [C.K]
          exact ⟨q, q', vs, ws, rfl, .inl ⟨.inl h1.1, .inl h3.1, hq _ _ A2 H2 _ (dwk_zipL ra2 h1 h2 h3 h4) ra2 (ex1.trans ex2) q2⟩⟩
        | _ => exact (show False from q2).elim
      | _ => cases d2 <;> exact (show False from q2).elim) (XW.ext hx ex1)) hx
end
end DL

set_option Elab.async false
set_option linter.all false
set_option maxRecDepth 100000
/-! comprehensions -/
namespace DL
open PySem PySem.Spec PyProof.Rows L2
theorem wipe_at {σ : L2.St} {i : Nat} : ∀ {vs : List Nat}, i ∈ vs → i < σ.length → (wipe σ vs)[i]? = some none
  | v :: vs, h, hl => by
    unfold wipe
    by_cases e : v = i
    · subst e; rw [List.getElem?_set_self (by rw [wipe_length]; exact hl)]
    · rw [List.getElem?_set_ne e]
      exact wipe_at ((List.mem_cons.mp h).resolve_left (Ne.symm e)) hl
theorem wipe_eq {σ σ' : L2.St} {vs : List Nat} (o : Only vs σ σ') : wipe σ' vs = wipe σ vs := by
  refine List.ext_getElem? fun i => ?_
  by_cases h : i ∈ vs
  · by_cases hl : i < σ.length
    · rw [wipe_at h hl, wipe_at h (by rw [o.1]; exact hl)]
    · rw [List.getElem?_eq_none (by rw [wipe_length, o.1]; omega), List.getElem?_eq_none (by rw [wipe_length]; omega)]
  · rw [wipe_out h, wipe_out h, o.2 i h]
theorem wipe_only {σ : L2.St} {vs : List Nat} : Only vs σ (wipe σ vs) := ⟨wipe_length _ _, fun j h => wipe_out h⟩
theorem wipe_wipe {σ : L2.St} {vs : List Nat} : wipe (wipe σ vs) vs = wipe σ vs := wipe_eq wipe_only
theorem Only.sub {is js : List Nat} {σ σ' : L2.St} (o : Only is σ σ') (h : ∀ i ∈ is, i ∈ js) : Only js σ σ' := ⟨o.1, fun j hj => o.2 j fun z => hj (h j z)⟩
/-- kept back besides -/
def hide (N : Addr → Prop) (D : Addr) : Addr → Prop := fun b => N b ∨ b = D
section
variable {L : Lk} {A : AH} {N : Addr → Prop} {H : Hp} {b : Addr} {u x : HO}
theorem Stay.hide (n : H b = none) : Stay A N H A (DL.hide N b) (upd H b u) := by
  have ne : ∀ {c : Addr} {w : HO}, Rd H c w → c ≠ b := fun h z => by
    subst z
    rcases h with h | ⟨o, h⟩ <;> rw [n] at h <;> cases h
  have rd : ∀ {c : Addr} {w : HO}, Rd H c w → Rd (upd H b u) c w := fun {c w} h => by
    unfold Rd; rw [upd_ne (ne h)]; exact h
  exact ⟨fun c w _ h => by rw [upd_ne (ne (.inl h))]; exact h, fun c xs h => ⟨rd h.1, h.2.1, fun z => z.elim h.2.2 (ne h.1)⟩, fun c xs h => ⟨rd h.1, h.2.1, fun z => z.elim h.2.2 (ne h.1)⟩⟩
theorem RA.hide (r : RA L A N H) (n : H b = none) : RA L A (DL.hide N b) (upd H b u) := ⟨fun c w e => by
  have z : c ≠ b := fun z => by subst z; rw [r.non n] at e; cases e
  exact RO.stay (.hide n) (fun y q => by rw [upd_ne z]; exact q) (r c w e), fun c hc => by
  by_cases z : c = b
  · subst z; exact ⟨r.non n, u, upd_same⟩
  · obtain ⟨h1, w, h2⟩ := r.hid c (hc.resolve_right z)
    exact ⟨h1, w, by rw [upd_ne z]; exact h2⟩⟩
/-- what is kept back may change -/
theorem Stay.quiet (hb : N b) (h : H b = some x) (n1 : ∀ xs, x ≠ .tup xs) (n2 : ∀ ob y, x ≠ .frz ob y) : Stay A N H A N (upd H b u) := by
  refine ⟨fun c xs _ h' => ?_, fun c xs h' => ?_, fun c xs h' => ?_⟩
  · rename_i t
    have z : c ≠ b := fun z => by
      subst z
      rw [h] at h'; cases h'
      rcases t with ⟨_, e⟩ | ⟨_, _, e⟩
      · exact n1 _ e
      · exact n2 _ _ e
    rw [upd_ne z]; exact h'
  · have z : c ≠ b := fun z => by subst z; exact h'.2.2 hb
    refine ⟨?_, h'.2⟩
    have := h'.1
    unfold Rd at this ⊢; rw [upd_ne z]; exact this
  · have z : c ≠ b := fun z => by subst z; exact h'.2.2 hb
    refine ⟨?_, h'.2⟩
    have := h'.1
    unfold Rd at this ⊢; rw [upd_ne z]; exact this
theorem RA.quiet (r : RA L A N H) (hb : N b) (h : H b = some x) (n1 : ∀ xs, x ≠ .tup xs) (n2 : ∀ ob y, x ≠ .frz ob y) : RA L A N (upd H b u) := ⟨fun c w q => by
  have z : c ≠ b := fun z => by subst z; rw [(r.hid _ hb).1] at q; cases q
  exact RO.stay (.quiet hb h n1 n2) (fun x q => by rw [upd_ne z]; exact q) (r c w q), fun c hc => by
  obtain ⟨h1, w, h2⟩ := r.hid c hc
  by_cases z : c = b
  · subst z; exact ⟨h1, u, upd_same⟩
  · exact ⟨h1, w, by rw [upd_ne z]; exact h2⟩⟩
/-- told now -/
theorem Stay.show {o : AO} : Stay A (DL.hide N b) H (up A b o) N H :=
  ⟨fun _ _ _ h => h, fun c xs h => ⟨h.1, by rw [up_ne (fun z => h.2.2 (.inr z))]; exact h.2.1, fun z => h.2.2 (.inl z)⟩, fun c xs h => ⟨h.1, by rw [up_ne (fun z => h.2.2 (.inr z))]; exact h.2.1, fun z => h.2.2 (.inl z)⟩⟩
theorem RA.show {ds : List D} {vs : List V} (r : RA L A (DL.hide N b) H) (nb : ¬ N b) (h : H b = some (.lst vs)) (rv : RVs L.K A (DL.hide N b) H ds vs) : RA L (up A b (.lst ds)) N H := ⟨fun c w q => by
  by_cases z : c = b
  · subst z; rw [up_same] at q; cases q; exact ⟨vs, h, RVs.stay .show _ _ rv⟩
  · rw [up_ne z] at q; exact RO.stay .show (fun _ q => q) (r c w q), fun c hc => by
  have z : c ≠ b := fun z => by subst z; exact nb hc
  rw [up_ne z]; exact r.hid c (.inl hc)⟩
end
section
variable {L : Lk} {G : Gm} {n : Nat} {X : Cx} {tg iter elt : Expr} {ifs : List Expr} {k : SrcK} {ies : List IE} {it : IT} {ie : IE} {t : Tg}
/-- the tests of a comprehension -/
def DTs (L : Lk) (G : Gm) (n : Nat) (X : Cx) (ifs : List Expr) (i : IT) : Prop := Cn L G n X → ∀ W, Takes X W → PTs X ifs (LT L W (wpT (callN G n) G i))
theorem pts_imp {X : Cx} {e : List Expr} {t t' : TT} (h : PTs X e t) (k : ∀ σ H Q, t' σ H Q → t σ H Q) : PTs X e t' := ⟨fun pins s σ H Q I q => h.run pins s σ H Q I (k σ H Q q)⟩
theorem dts_nil : DTs L G n X [] .yes := fun C W tk => pts_imp pts_nil fun σ H Q ⟨N, δ, A, Qd, Ed, rs, ra, h, hq, hx⟩ => hq true A H ra (Ext.refl _ _) h
theorem dts_one {c : Expr} (h : DT L G n X c it) : DTs L G n X [c] it := fun C W tk => pts_one (h C W tk)
abbrev W0 : WX := fun _ _ _ _ => False
/-- the block's context -/
theorem Cn.blk (C : Cn L G n X) (s : Shared) (H : Hp) (scope : Scope) (env : Env) (fp : List Addr) : Cn L G n (X.blk s H scope env fp) := ⟨C.K, C.calm, C.room, C.nd, C.fns, C.cls⟩
theorem tlc_of {W : WX} {wi : TI} {vs : List Nat} {σ : L2.St} {H : Hp} {Q : VK} (hvs : ∀ i ∈ slots t, i ∈ vs) (wE : WE) (wT : WT) (wA : WA)
    (h : LE L W (fun δ A Q E => wA δ A (fun ds A1 => dSrc k ds A1 fun xs g => xs.length ≤ sizeLine ∧ dComp t g wT wE (wipeD δ vs) xs [] A1 Q) E) σ H Q) (hw : ∀ R, LI L W k wA σ H R → wi σ H R) :
    tLc wi (LG L t) (LT L W0 wT) (LE L W0 wE) vs σ H Q := by
  obtain ⟨N, δ, A, Qd, Ed, rs, ra, h, hq, hx⟩ := h
  refine hw _ ⟨N, δ, A, fun xs g A1 => xs.length ≤ sizeLine ∧ dComp t g wT wE (wipeD δ vs) xs [] A1 Qd, Ed, rs, ra, h, fun xs g A1 H1 J wk ra1 ex1 q1 => ?_, hx⟩
  intro Dn nD
  obtain ⟨hz, q1⟩ := q1
  have nA1 : A1 Dn = none := ra1.non nD
  -- the invariant
  refine ⟨fun i m H' => m = xs.length - i ∧ i ≤ xs.length ∧ ∃ A' acc accV, RA L A' (hide N Dn) H' ∧ Ext A1 H1 A' H' ∧ A' Dn = none ∧ H' Dn = some (.lst accV) ∧ RVs L.K A' (hide N Dn) H' acc accV ∧ acc.length ≤ i ∧ dComp t g wT wE (wipeD δ vs) (xs.drop i) acc A' Qd, ⟨_, rfl, Nat.zero_le _, A1, [], [], ?_, ?_, nA1, upd_same, .nil, Nat.le_refl _, q1⟩, ?_⟩
  · exact ra1.hide nD
  · exact Ext.tupNew ra1 nD
  · rintro i m H' ⟨rfl, hi, A', acc, accV, ra', ex', nA', hD, rv', hl, hc⟩
    by_cases hlt : i < xs.length
    · rw [List.drop_eq_getElem_cons hlt] at hc
      obtain ⟨gA, hc⟩ : g A' ∧ gAsg t xs[i] (wipeD δ vs) A' (fun δ' => wT δ' A' (fun b A1 => if b = true then wE δ' A1 (fun y A2 => dComp t g wT wE (wipeD δ vs) (xs.drop (i + 1)) (acc ++ [y]) A2 Qd) (fun _ _ => False) else dComp t g wT wE (wipeD δ vs) (xs.drop (i + 1)) acc A1 Qd) (fun _ _ => False)) := hc
      have st0 : Stay A1 N H1 A' (hide N Dn) H' := ⟨fun b w t h => (ex' b w h (ra1.tup' t h)).1, fun b xs h => let q := ex'.rd h.1 h.2.1; ⟨q.1, q.2, fun z => z.elim h.2.2 fun z => by subst z; rcases h.1 with h | ⟨o, h⟩ <;> rw [nD] at h <;> cases h⟩, fun b xs h => let q := ex'.rd h.1 h.2.1; ⟨q.1, q.2, fun z => z.elim h.2.2 fun z => by subst z; rcases h.1 with h | ⟨o, h⟩ <;> rw [nD] at h <;> cases h⟩⟩
      refine .inr ⟨wk.goes i A' _ H' hlt ra' st0 gA, fun H'' => (∃ A' acc accV, RA L A' (hide N Dn) H'' ∧ Ext A1 H1 A' H'' ∧ A' Dn = none ∧ H'' Dn = some (.lst accV) ∧ RVs L.K A' (hide N Dn) H'' acc accV ∧ acc.length ≤ i + 1 ∧ dComp t g wT wE (wipeD δ vs) (xs.drop (i + 1)) acc A' Qd), fun H'' q => ⟨xs.length - (i + 1), by omega, rfl, hlt, q⟩, fun x H2 hy => ?_⟩
      obtain ⟨d, e1, rx, ra2, ex2⟩ := wk.yields i x A' _ H' H2 hlt ra' st0 gA hy
      rw [List.getElem?_eq_getElem hlt] at e1
      cases e1
      have hD2 := ex2 Dn _ hD nA'
      have rs2 : RS L.K A' (hide N Dn) H2 (wipeD δ vs) (wipe σ vs) := (((rs.wipe vs).stay (ex1.stay ra)).stay st0).stay (ex2.stay ra')
      have rv2 := RVs.stay (ex2.stay ra') _ _ rv'
      refine ⟨_, _, _, A', _, rx, rs2, ra2, hc, fun δ3 σ3 rs3 on3 q3 => ⟨?_, ?_⟩⟩
      · rw [wipe_eq (on3.sub hvs), wipe_wipe]
      · refine LT.use rs3 ra2 q3 (fun b A4 H4 ra4 ex4 rs4 q4 => ?_) (fun _ _ _ _ _ z => z)
        have hD4 := ex4 Dn _ hD2.1 hD2.2
        have rv4 := RVs.stay (ex4.stay ra2) _ _ rv2
        cases b with
        | true =>
          rw [if_pos rfl] at q4 ⊢
          refine LE.use rs4 ra4 q4 (fun y A5 v5 H5 rv5 ra5 ex5 rs5 q5 => ?_) (fun _ _ _ _ _ z => z)
          have hD5 := ex5 Dn _ hD4.1 hD4.2
          have rv6 := (RVs.stay (ex5.stay ra4) _ _ rv4).snoc rv5
          have no1 : ∀ xs, HO.lst accV ≠ .tup xs := by intro _ z; cases z
          have no2 : ∀ ob y, HO.lst accV ≠ .frz ob y := by intro _ _ z; cases z
          refine ⟨accV, hD5.1, by rw [← rv4.length]; omega, A5, acc ++ [y], accV ++ [v5], ra5.quiet (.inr rfl) hD5.1 no1 no2, ?_, hD5.2, upd_same, RVs.stay (.quiet (.inr rfl) hD5.1 no1 no2) _ _ rv6, ?_, q5⟩
          · intro b o hb nb
            have z : b ≠ Dn := ne_of_none hb nD
            rw [upd_ne z]
            exact ((((ex'.trans ex2).trans ex4).trans ex5) b o hb nb)
          · rw [List.length_append, List.length_singleton]; omega
        | false =>
          rw [if_neg Bool.false_ne_true] at q4 ⊢
          exact ⟨A4, acc, accV, ra4, (ex'.trans ex2).trans ex4, hD4.2, hD4.1, rv4, by omega, q4⟩
    · have e : i = xs.length := by omega
      subst e
      rw [List.drop_length] at hc
      obtain ⟨gA, hc⟩ : g A' ∧ newL A' acc Qd := hc
      have st0 : Stay A1 N H1 A' (hide N Dn) H' := ⟨fun b w t h => (ex' b w h (ra1.tup' t h)).1, fun b xs h => let q := ex'.rd h.1 h.2.1; ⟨q.1, q.2, fun z => z.elim h.2.2 fun z => by subst z; rcases h.1 with h | ⟨o, h⟩ <;> rw [nD] at h <;> cases h⟩, fun b xs h => let q := ex'.rd h.1 h.2.1; ⟨q.1, q.2, fun z => z.elim h.2.2 fun z => by subst z; rcases h.1 with h | ⟨o, h⟩ <;> rw [nD] at h <;> cases h⟩⟩
      have nN : ¬ N Dn := fun z => by obtain ⟨_, w, h⟩ := ra1.hid _ z; rw [nD] at h; cases h
      refine .inl ⟨wk.stops A' _ H' ra' st0 gA, ?_⟩
      refine hq (.ref Dn) (up A' Dn (.lst acc)) (.ref Dn) H' (rv_ref.mpr rfl) (ra'.show nN hD rv') ?_ (hc Dn nA')
      intro b o hb nb
      obtain ⟨h1, h2⟩ := (ex1.trans ex') b o hb nb
      have z : b ≠ Dn := by
        intro z
        subst z
        have h3 := (ex1 b o hb nb).1
        rw [nD] at h3
        cases h3
      rw [up_ne z]
      exact ⟨h1, h2⟩
variable {scope : Scope} {own : List (Str × Nat)} {pos spos py : Pos}
theorem de_comp (hi : DI L G n X tg iter k ies) (ok : BlkOk X.N X.env.scope scope own) (hvs : ∀ i ∈ slots t, i ∈ own.map (·.2))
    (hg : ∀ (s : Shared) (H : Hp) (C : Addr) (cl : List (Str × Addr)) (fp : List Addr), DG L G n (X.blk s H scope (compEnvC scope cl C X.env) fp) tg t)
    (ht : ∀ (s : Shared) (H : Hp) (C : Addr) (cl : List (Str × Addr)) (fp : List Addr), DTs L G n (X.blk s H scope (compEnvC scope cl C X.env) fp) ifs it)
    (he : ∀ (s : Shared) (H : Hp) (C : Addr) (cl : List (Str × Addr)) (fp : List Addr), DE L G n (X.blk s H scope (compEnvC scope cl C X.env) fp) elt ie)
    (hs : ∀ x, foldedSetIterable iter X.env x = pure x) : DE L G n X (.ListComp elt [⟨tg, iter, ifs, 0⟩] scope pos) (.comp k ies (own.map (·.2)) t it ie) := fun C W tk =>
  pe_imp (pe_lc (own := own) C.calm C.nd (hi C W tk) ok (fun s H c cl fp => hg s H c cl fp (C.blk _ _ _ _ _)) (fun s H c cl fp => ht s H c cl fp (C.blk _ _ _ _ _) W0 takes0) (fun s H c cl fp => he s H c cl fp (C.blk _ _ _ _ _) W0 takes0) hs)
    fun σ H Q h => tlc_of hvs (wpE (callN G n) G ie) (wpT (callN G n) G it) (wpEs (callN G n) G ies) (by
      obtain ⟨N, δ, A, Qd, Ed, rs, ra, h, hq, hx⟩ := h
      exact ⟨N, δ, A, Qd, Ed, rs, ra, h, hq, hx⟩) fun R q => q
end
end DL

set_option Elab.async false
set_option linter.all false
set_option maxRecDepth 100000
/-! statements; a def by its body; the law's end -/
namespace DL
open PySem PySem.Spec PyProof.Rows L2
def LS (L : Lk) (W : WX) (w : WS) : TS := fun D σ H => ∃ (N : Addr → Prop) (δ : DSt) (A : AH) (P : Pst), RS L.K A N H δ σ ∧ RA L A N H ∧ w P δ A ∧
  (∀ δ' A' σ' H', RS L.K A' N H' δ' σ' → RA L A' N H' → Ext A H A' H' → P.nx δ' A' → D.nx σ' H') ∧
  (∀ d A' v H', RV L.K A' N H' d v → RA L A' N H' → Ext A H A' H' → P.rt d A' → D.rt v H') ∧
  (∀ δ' A' σ' H', RS L.K A' N H' δ' σ' → RA L A' N H' → Ext A H A' H' → P.ct δ' A' → D.ct σ' H') ∧
  ∀ x δ' A' σ' H', RS L.K A' N H' δ' σ' → RA L A' N H' → Ext A H A' H' → P.ex x δ' A' → W (L.XV x) none σ' H'
abbrev Pso (X : Cx) : Prop := PassesOwn (model X.prog X.w) X.A X.env X.xe
def DS (L : Lk) (G : Gm) (n : Nat) (X : Cx) (st : Stmt) (i : IS) : Prop := Cn L G n X → Pso X → ∀ W, Takes X W → PS X st (LS L W (wpS (callN G n) G i))
def DSs (L : Lk) (G : Gm) (n : Nat) (X : Cx) (st : List Stmt) (i : List IS) : Prop := Cn L G n X → Pso X → ∀ W, Takes X W → PSs X st (LS L W (wpSs (callN G n) G i))
section
variable {L : Lk} {G : Gm} {n : Nat} {X : Cx} {x : Str} {pos p : Pos} {e a b o i : Expr} {es : List Expr} {st : Stmt} {sts body : List Stmt} {is : IS} {iss jss : List IS} {ie ia io ii : IE} {ies : List IE} {it : IT} {t : Tg} {k : SrcK}
theorem dss_nil : DSs L G n X [] [] := fun C po W tk => pss_imp pss_nil fun D σ H ⟨N, δ, A, P, rs, ra, h, hn, hr, hc, hx⟩ => hn δ A σ H rs ra (Ext.refl _ _) h
theorem dss_cons (h1 : DS L G n X st is) (h2 : DSs L G n X sts iss) : DSs L G n X (st :: sts) (is :: iss) := fun C po W tk =>
  pss_imp (pss_cons (h1 C po W tk) (h2 C po W tk)) fun D σ H ⟨N, δ, A, P, rs, ra, h, hn, hr, hc, hx⟩ =>
    ⟨N, δ, A, _, rs, ra, h, fun δ1 A1 σ1 H1 rs1 ra1 ex1 q1 => ⟨N, δ1, A1, P, rs1, ra1, q1, fun δ' A' σ' H' r1 r2 e q => hn δ' A' σ' H' r1 r2 (ex1.trans e) q, fun d A' v H' r1 r2 e q => hr d A' v H' r1 r2 (ex1.trans e) q,
      fun δ' A' σ' H' r1 r2 e q => hc δ' A' σ' H' r1 r2 (ex1.trans e) q, fun x δ' A' σ' H' r0 r e q => hx x δ' A' σ' H' r0 r (ex1.trans e) q⟩, hr, hc, hx⟩
/-- exceptions of an expression within a statement -/
theorem exq {W : WX} {N : Addr → Prop} {δ : DSt} {A : AH} {H : Hp} {σ : L2.St} {E : XP} (rs : RS L.K A N H δ σ) (ra : RA L A N H) (hx : ∀ x δ' A' σ' H', RS L.K A' N H' δ' σ' → RA L A' N H' → Ext A H A' H' → E x δ' A' → W (L.XV x) none σ' H') : ∀ x A' H', RA L A' N H' → Ext A H A' H' → E x δ A' → W (L.XV x) none σ H' := fun x A' H' r e q => hx x δ A' σ H' (rs.stay (e.stay ra)) r e q
theorem ds_set {j : Nat} (hi : X.N[j]? = some x) (hl : Loc X.env.scope x) (he : DE L G n X e ie) (hs : swapsWith e (some (.Name x p)) pos.line X.env = pure false) (hf : X.fn x = true ∨ X.env.scope.names.lookup x = some .local) : DS L G n X (.Assign [.Name x p] e pos) (.set j ie) := fun C po W tk =>
  ps_imp (ps_set C.nd hi hl (he C W tk) hs hf) fun D σ H ⟨N, δ, A, P, rs, ra, h, hn, hr, hc, hx⟩ =>
    LE.use rs ra h (fun d A1 v1 H1 rv1 ra1 ex1 rs1 q1 => hn _ A1 _ H1 (rs1.set rv1 j) ra1 ex1 q1) (exq rs ra hx)
theorem ds_setLc {j : Nat} {tg iter elt : Expr} {ifs : List Expr} {scope : Scope} {own : List (Str × Nat)} {cpos : Pos} (hy : X.N[j]? = some x) (hyl : X.env.scope.names.lookup x = some .local) (hsw : swapsWith (.ListComp elt [⟨tg, iter, ifs, 0⟩] scope cpos) (some (.Name x p)) pos.line X.env = pure true)
    (hi : DI L G n X tg iter k ies) (ok : BlkOk X.N X.env.scope scope own) (hvs : ∀ i ∈ slots t, i ∈ own.map (·.2))
    (hg : ∀ (s : Shared) (H : Hp) (C : Addr) (cl : List (Str × Addr)) (fp : List Addr), DG L G n (X.blk s H scope (compEnvC scope cl C X.env) fp) tg t)
    (ht : ∀ (s : Shared) (H : Hp) (C : Addr) (cl : List (Str × Addr)) (fp : List Addr), DTs L G n (X.blk s H scope (compEnvC scope cl C X.env) fp) ifs it)
    (he : ∀ (s : Shared) (H : Hp) (C : Addr) (cl : List (Str × Addr)) (fp : List Addr), DE L G n (X.blk s H scope (compEnvC scope cl C X.env) fp) elt ie)
    (hs : ∀ x, foldedSetIterable iter X.env x = pure x) : DS L G n X (.Assign [.Name x p] (.ListComp elt [⟨tg, iter, ifs, 0⟩] scope cpos) pos) (.set j (.comp k ies (own.map (·.2)) t it ie)) := fun C po W tk =>
  ps_imp (ps_setLc (own := own) C.calm C.nd hy hyl hsw (hi C W tk) ok (fun s H c cl fp => hg s H c cl fp (C.blk _ _ _ _ _)) (fun s H c cl fp => ht s H c cl fp (C.blk _ _ _ _ _) W0 takes0) (fun s H c cl fp => he s H c cl fp (C.blk _ _ _ _ _) W0 takes0) hs)
    fun D σ H ⟨N, δ, A, P, rs, ra, h, hn, hr, hc, hx⟩ => tlc_of hvs (wpE (callN G n) G ie) (wpT (callN G n) G it) (wpEs (callN G n) G ies)
      ⟨N, δ, A, _, _, rs, ra, h, fun d A1 v1 H1 rv1 ra1 ex1 q1 => hn _ A1 _ H1 ((rs.stay (ex1.stay ra)).set rv1 j) ra1 ex1 q1, exq rs ra hx⟩ fun R q => q
theorem ds_tset {tg : Expr} (he : DE L G n X e ie) (hg : DG L G n X tg t) (hs : swapsWithSole [tg] e pos.line X.env = pure false) (hw : swappedStores [tg] e X.env = pure none) (h1 : (assignEach [tg] X.env).map (·.2) = [assign tg X.env]) : DS L G n X (.Assign [tg] e pos) (.tset t ie) := fun C po W tk =>
  ps_imp (ps_asg (he C W tk) (hg C) hs hw h1) fun D σ H ⟨N, δ, A, P, rs, ra, h, hn, hr, hc, hx⟩ =>
    LE.use rs ra h (fun d A1 v1 H1 rv1 ra1 ex1 rs1 q1 => ⟨N, d, δ, A1, _, rv1, rs1, ra1, q1, fun δ' σ' rs' _ q => hn δ' A1 σ' H1 rs' ra1 ex1 q⟩) (exq rs ra hx)
theorem len2 {ds : List D} (h : ds.length = 2) : ∃ d d', ds = [d, d'] := by
  match ds, h with
  | [d, d'], _ => exact ⟨d, d', rfl⟩
theorem len3 {ds : List D} (h : ds.length = 3) : ∃ d d' d'', ds = [d, d', d''] := by
  match ds, h with
  | [d, d', d''], _ => exact ⟨d, d', d'', rfl⟩
theorem ds_par2 {j l : Nat} {y : Str} {px py pt : Pos} {kt k2 : Nat} {pt2 : Pos} (hi : X.N[j]? = some x) (hj : X.N[l]? = some y) (hij : j ≠ l) (hx : X.env.scope.names.lookup x = some .local) (hy : X.env.scope.names.lookup y = some .local) (ha : DA L G n X [a, b] ies)
    (hw : swappedStores [.Tuple [.Name x px, .Name y py] kt pt] (.Tuple [a, b] k2 pt2) X.env = pure (some [x, y])) (hs : swapsWithSole [.Tuple [.Name x px, .Name y py] kt pt] (.Tuple [a, b] k2 pt2) pos.line X.env = pure false) :
    DS L G n X (.Assign [.Tuple [.Name x px, .Name y py] kt pt] (.Tuple [a, b] k2 pt2) pos) (.par [j, l] ies) := fun C po W tk =>
  ps_imp (ps_par C.calm C.nd hi hj hij hx hy (ha C W tk) hw hs) fun D σ H ⟨N, δ, A, P, rs, ra, h, hn, hr, hc, hx⟩ =>
    LAs.use rs ra h (fun ds A1 vs H1 rv1 ra1 ex1 rs1 q1 => by
      obtain ⟨hl, q1⟩ := q1
      obtain ⟨d, d', rfl⟩ := len2 hl
      obtain ⟨v, v', rfl, r1, r2⟩ := rvs2 rv1
      exact ⟨v, v', rfl, hn _ A1 _ H1 ((rs1.set r1 j).set r2 l) ra1 ex1 q1⟩) (exq rs ra hx)
theorem ds_par3 {j l m : Nat} {y z : Str} {c : Expr} {px py pz pt : Pos} {kt k2 : Nat} {pt2 : Pos} (hi : X.N[j]? = some x) (hj : X.N[l]? = some y) (hm : X.N[m]? = some z) (hij : j ≠ l) (him : j ≠ m) (hjm : l ≠ m) (hx : X.env.scope.names.lookup x = some .local) (hy : X.env.scope.names.lookup y = some .local)
    (hz : X.env.scope.names.lookup z = some .local) (ha : DA L G n X [a, b, c] ies)
    (hw : swappedStores [.Tuple [.Name x px, .Name y py, .Name z pz] kt pt] (.Tuple [a, b, c] k2 pt2) X.env = pure (some [x, y, z])) (hs : swapsWithSole [.Tuple [.Name x px, .Name y py, .Name z pz] kt pt] (.Tuple [a, b, c] k2 pt2) pos.line X.env = pure false) :
    DS L G n X (.Assign [.Tuple [.Name x px, .Name y py, .Name z pz] kt pt] (.Tuple [a, b, c] k2 pt2) pos) (.par [j, l, m] ies) := fun C po W tk =>
  ps_imp (ps_par3 C.calm C.nd hi hj hm hij him hjm hx hy hz (ha C W tk) hw hs) fun D σ H ⟨N, δ, A, P, rs, ra, h, hn, hr, hc, hx⟩ =>
    LAs.use rs ra h (fun ds A1 vs H1 rv1 ra1 ex1 rs1 q1 => by
      obtain ⟨hl, q1⟩ := q1
      obtain ⟨d, d', d'', rfl⟩ := len3 hl
      obtain ⟨v, vr, rfl, r1, rr⟩ := rv1.cons'
      obtain ⟨v', v'', rfl, r2, r3⟩ := rvs2 rr
      exact ⟨v, v', v'', rfl, hn _ A1 _ H1 (((rs1.set r1 j).set r2 l).set r3 m) ra1 ex1 q1⟩) (exq rs ra hx)
theorem RA.dput {L : Lk} {A : AH} {N : Addr → Prop} {H : Hp} {o : AO} {a : Addr} {kvs : List (Key × DL.D)} {ws : List (Key × V)} (ra : RA L A N H) (e : A a = some o) (r : RKs L.K A N H kvs ws) : RA L (up A a (.dk kvs)) N (upd H a (.dK ws)) :=
  ra.put e ⟨ws, upd_same, r.stay ((Ext.put e).stay ra)⟩
def rSetA (o i v : V) (H : Hp) (Q : Hp → Prop) : Prop := rSetL o i v H Q ∨ ∃ a ws k, o = .ref a ∧ i = kV k ∧ H a = some (.dK ws) ∧ ws.length < sizeLine ∧ Q (upd H a (.dK (putK ws k v)))
theorem set_all (hu : X.A.units + 1 < cLine) : PSet X rSetA := by
  intro pins s σ H o i v ov iv u Q I ro ri rv h
  rcases h with h | ⟨a, ws, k, rfl, rfl, h1, h2, q⟩
  · exact set_list pins s σ H o i v ov iv u Q I ro ri rv h
  · cases ro
    exact d_setItem hu I (DPut.k h1 h2) ri rv fun s' I' => ⟨_, I', q⟩
theorem ds_sub {sp : Pos} (he : DE L G n X e ie) (ho : DE L G n X o io) (hi : DE L G n X i ii)
    (ha : ∀ v, assign (.Subscript o i sp) X.env v = (do
      let ov ← holding [v] (eval o X.env)
      let iv ← holding [v, ov] (eval i X.env)
      standAt sp
      holding [v, ov, iv] (setItem ov iv v)
      release [v, ov, iv] []))
    (hs : swapsWithSole [.Subscript o i sp] e pos.line X.env = pure false) (hw : swappedStores [.Subscript o i sp] e X.env = pure none) (h1 : (assignEach [.Subscript o i sp] X.env).map (·.2) = [assign (.Subscript o i sp) X.env]) :
    DS L G n X (.Assign [.Subscript o i sp] e pos) (.sub io ii ie) := fun C po W tk =>
  ps_imp (ps_asg (he C W tk) (pg_sub (ho C W tk) (hi C W tk) (set_all (hu_of C.room)) ha) hs hw h1) fun D σ H ⟨N, δ, A, P, rs, ra, h, hn, hr, hc, hx⟩ =>
    LE.use rs ra h (fun d A1 v1 H1 rv1 ra1 ex1 rs1 q1 => LE.use rs1 ra1 q1 (fun d2 A2 v2 H2 rv2 ra2 ex2 rs2 q2 => LE.use rs2 ra2 q2 (fun d3 A3 v3 H3 rv3 ra3 ex3 rs3 q3 => by
      have r1 := RV.stay (ex3.stay ra2) _ _ (RV.stay (ex2.stay ra1) _ _ rv1)
      have r2 := RV.stay (ex3.stay ra2) _ _ rv2
      have dict : ∀ (q : Addr) (ky : Key) (kvs : List (Key × DL.D)), v2 = .ref q → v3 = kV ky → A3 q = some (.dk kvs) → kvs.length < sizeLine ∧ P.nx δ (up A3 q (.dk (putD kvs ky d))) → rSetA v2 v3 v1 H3 fun H3 => D.nx σ H3 := fun q ky kvs e2 e3 e q3 => by
        obtain ⟨ws, h1, h2⟩ := ra3 q _ e
        exact .inr ⟨q, ws, ky, e2, e3, h1, by rw [← h2.len]; exact q3.1, hn δ _ σ _ (rs3.stay ((Ext.put e).stay ra3)) (ra3.dput e (h2.put ky r1)) (((ex1.trans ex2).trans ex3).trans (Ext.put e)) q3.2⟩
      unfold dSub at q3
      split at q3
      · next q j =>
        split at q3
        · next xs e =>
          split at q3
          · next l el =>
            obtain ⟨ws, h1, h2⟩ := ra3 q _ e
            rw [rv_ref.mp r2, rv_int.mp rv3]
            refine .inl ⟨q, ws, j, l, rfl, rfl, h1, by rw [← h2.length]; exact el, hn δ _ σ _ (rs3.stay ((Ext.put e).stay ra3)) (ra3.lput e (RVs.set r1 l h2)) (((ex1.trans ex2).trans ex3).trans (Ext.put e)) q3⟩
          · exact q3.elim
        · next kvs e => exact dict q (.inl j) kvs (rv_ref.mp r2) (rv_int.mp rv3) e q3
        · exact q3.elim
      · next q z =>
        split at q3
        · next kvs e => exact dict q (.inr z) kvs (rv_ref.mp r2) (rv_str.mp rv3) e q3
        · exact q3.elim
      · exact q3.elim) (exq rs2 ra2 fun x δ' A' σ' H' r0 r e q => hx x δ' A' σ' H' r0 r ((ex1.trans ex2).trans e) q)) (exq rs1 ra1 fun x δ' A' σ' H' r0 r e q => hx x δ' A' σ' H' r0 r (ex1.trans e) q)) (exq rs ra hx)
theorem ds_expr (he : DE L G n X e ie) (hs : swapsWith e none pos.line X.env = pure false) : DS L G n X (.Expr e pos) (.expr ie) := fun C po W tk =>
  ps_imp (ps_expr (he C W tk) hs) fun D σ H ⟨N, δ, A, P, rs, ra, h, hn, hr, hc, hx⟩ => LE.use rs ra h (fun d A1 v1 H1 rv1 ra1 ex1 rs1 q1 => hn δ A1 σ H1 rs1 ra1 ex1 q1) (exq rs ra hx)
theorem ds_doc {z : Str} {j : Nat} : DS L G n X (.Expr (.Constant (.str z) j p) pos) .pass := fun C po W tk =>
  ps_imp ps_doc fun D σ H ⟨N, δ, A, P, rs, ra, h, hn, hr, hc, hx⟩ => hn δ A σ H rs ra (Ext.refl _ _) h
theorem ds_pass : DS L G n X (.Pass pos) .pass := fun C po W tk => ps_imp ps_pass fun D σ H ⟨N, δ, A, P, rs, ra, h, hn, hr, hc, hx⟩ => hn δ A σ H rs ra (Ext.refl _ _) h
theorem ds_cont : DS L G n X (.Continue pos) .cont := fun C po W tk => ps_imp ps_continue fun D σ H ⟨N, δ, A, P, rs, ra, h, hn, hr, hc, hx⟩ => hc δ A σ H rs ra (Ext.refl _ _) h
theorem ds_ret (he : DE L G n X e ie) : DS L G n X (.Return (some e) pos) (.ret ie) := fun C po W tk =>
  ps_imp (ps_ret (he C W tk)) fun D σ H ⟨N, δ, A, P, rs, ra, h, hn, hr, hc, hx⟩ => LE.use rs ra h (fun d A1 v1 H1 rv1 ra1 ex1 rs1 q1 => hr d A1 v1 H1 rv1 ra1 ex1 q1) (exq rs ra hx)
theorem ds_retN : DS L G n X (.Return none pos) (.ret (.cst .non)) := fun C po W tk =>
  ps_imp ps_retN fun D σ H ⟨N, δ, A, P, rs, ra, h, hn, hr, hc, hx⟩ => hr .non A .non H (rv_non.mpr rfl) ra (Ext.refl _ _) h
theorem LS.later {W : WX} {w : WS} {N : Addr → Prop} {D : Ends} {σ : L2.St} {H H1 : Hp} {δ : DSt} {A A1 : AH} {P : Pst} (rs1 : RS L.K A1 N H1 δ σ) (ra1 : RA L A1 N H1) (ex1 : Ext A H A1 H1) (h : w P δ A1)
    (hn : ∀ δ' A' σ' H', RS L.K A' N H' δ' σ' → RA L A' N H' → Ext A H A' H' → P.nx δ' A' → D.nx σ' H') (hr : ∀ d A' v H', RV L.K A' N H' d v → RA L A' N H' → Ext A H A' H' → P.rt d A' → D.rt v H')
    (hc : ∀ δ' A' σ' H', RS L.K A' N H' δ' σ' → RA L A' N H' → Ext A H A' H' → P.ct δ' A' → D.ct σ' H') (hx : ∀ x δ' A' σ' H', RS L.K A' N H' δ' σ' → RA L A' N H' → Ext A H A' H' → P.ex x δ' A' → W (L.XV x) none σ' H') : LS L W w D σ H1 :=
  ⟨N, δ, A1, P, rs1, ra1, h, fun δ' A' σ' H' r1 r2 e q => hn δ' A' σ' H' r1 r2 (ex1.trans e) q, fun d A' v H' r1 r2 e q => hr d A' v H' r1 r2 (ex1.trans e) q, fun δ' A' σ' H' r1 r2 e q => hc δ' A' σ' H' r1 r2 (ex1.trans e) q, fun x δ' A' σ' H' r0 r e q => hx x δ' A' σ' H' r0 r (ex1.trans e) q⟩
theorem ds_if {c : Expr} {bs : List Stmt} (ht : DT L G n X c it) (ha : DSs L G n X body iss) (hb : DSs L G n X bs jss) : DS L G n X (.If c body bs pos) (.iff it iss jss) := fun C po W tk =>
  ps_imp (ps_if (ht C W tk) (ha C po W tk) (hb C po W tk)) fun D σ H ⟨N, δ, A, P, rs, ra, h, hn, hr, hc, hx⟩ =>
    LT.use rs ra h (fun k A1 H1 ra1 ex1 rs1 q1 => by
      cases k with
      | true => rw [if_pos rfl] at q1 ⊢; exact LS.later rs1 ra1 ex1 q1 hn hr hc hx
      | false => rw [if_neg Bool.false_ne_true] at q1 ⊢; exact LS.later rs1 ra1 ex1 q1 hn hr hc hx) (exq rs ra hx)
theorem ds_for {tg iter : Expr} (hi : DI L G n X tg iter k ies) (hg : DG L G n X tg t) (hb : DSs L G n X body iss) (hs : ∀ x, foldedSetIterable iter X.env x = pure x) : DS L G n X (.For tg iter body [] pos) (.for k ies t iss) := fun C po W tk =>
  ps_imp (ps_for po C.calm (hi C W tk) (hg C) (hb C po W tk) hs) fun D σ H ⟨N, δ, A, P, rs, ra, h, hn, hr, hc, hx⟩ => by
    refine ⟨N, δ, A, fun xs g A1 => dFor t g (wpSs (callN G n) G iss) xs P δ A1, _, rs, ra, h, fun xs g A1 H1 J wk ra1 ex1 q1 => ?_, exq rs ra hx⟩
    refine ⟨fun i m σ' H' => m = xs.length - i ∧ i ≤ xs.length ∧ ∃ δ' A', RS L.K A' N H' δ' σ' ∧ RA L A' N H' ∧ Ext A1 H1 A' H' ∧ dFor t g (wpSs (callN G n) G iss) (xs.drop i) P δ' A', ⟨_, rfl, Nat.zero_le _, δ, A1, rs.stay (ex1.stay ra), ra1, Ext.refl _ _, q1⟩, ?_⟩
    rintro i m σ' H' ⟨rfl, hi, δ', A', rs', ra', ex', q⟩
    by_cases hlt : i < xs.length
    · rw [List.drop_eq_getElem_cons hlt] at q
      obtain ⟨gA, q⟩ : g A' ∧ gAsg t xs[i] δ' A' (fun δ'' => wpSs (callN G n) G iss ⟨fun δ2 A2 => dFor t g (wpSs (callN G n) G iss) (xs.drop (i + 1)) P δ2 A2, P.rt, fun δ2 A2 => dFor t g (wpSs (callN G n) G iss) (xs.drop (i + 1)) P δ2 A2, P.ex⟩ δ'' A') := q
      refine .inr ⟨wk.goes i A' N H' hlt ra' (ex'.stay ra1) gA, fun σ'' H'' => (∃ δ' A', RS L.K A' N H'' δ' σ'' ∧ RA L A' N H'' ∧ Ext A1 H1 A' H'' ∧ dFor t g (wpSs (callN G n) G iss) (xs.drop (i + 1)) P δ' A'), fun σ'' H'' q => ⟨xs.length - (i + 1), by omega, rfl, hlt, q⟩, fun x H2 hy => ?_⟩
      obtain ⟨d, e1, rx, ra2, ex2⟩ := wk.yields i x A' N H' H2 hlt ra' (ex'.stay ra1) gA hy
      rw [List.getElem?_eq_getElem hlt] at e1
      cases e1
      have e02 := ex1.trans (ex'.trans ex2)
      refine ⟨N, _, δ', A', _, rx, rs'.stay (ex2.stay ra'), ra2, q, fun δ3 σ3 rs3 _ q3 => ⟨N, δ3, A', _, rs3, ra2, q3, fun δ4 A4 σ4 H4 r1 r2 e q => ⟨δ4, A4, r1, r2, (ex'.trans ex2).trans e, q⟩, fun d A4 v H4 r1 r2 e q => hr d A4 v H4 r1 r2 (e02.trans e) q, fun δ4 A4 σ4 H4 r1 r2 e q => ⟨δ4, A4, r1, r2, (ex'.trans ex2).trans e, q⟩, fun x δ4 A4 σ4 H4 r0 r e q => hx x δ4 A4 σ4 H4 r0 r (e02.trans e) q⟩⟩
    · have e : i = xs.length := by omega
      subst e
      rw [List.drop_length] at q
      obtain ⟨gA, q⟩ : g A' ∧ P.nx δ' A' := q
      exact .inl ⟨wk.stops A' N H' ra' (ex'.stay ra1) gA, hn δ' A' σ' H' rs' ra' (ex1.trans ex') q⟩
theorem ds_while {c : Expr} (ht : DT L G n X c it) (hb : DSs L G n X body iss) : DS L G n X (.While c body [] pos) (.whil it iss) := fun C po W tk =>
  ps_imp (ps_while po (ht C W tk) (hb C po W tk)) fun D σ H ⟨N, δ, A, P, rs, ra, h, hn, hr, hc, hx⟩ => by
    obtain ⟨m0, h⟩ := h
    refine ⟨fun m σ' H' => ∃ δ' A', RS L.K A' N H' δ' σ' ∧ RA L A' N H' ∧ Ext A H A' H' ∧ dWhile (wpT (callN G n) G it) (wpSs (callN G n) G iss) m P δ' A', ⟨m0, δ, A, rs, ra, Ext.refl _ _, h⟩, ?_⟩
    rintro m σ' H' ⟨δ', A', rs', ra', ex', q⟩
    cases m with
    | zero => exact (show False from q).elim
    | succ m =>
      refine LT.use rs' ra' q (fun k A1 H1 ra1 ex1 rs1 q1 => ?_) (exq rs' ra' fun x δ1 A1 σ1 H1 r0 r e q => hx x δ1 A1 σ1 H1 r0 r (ex'.trans e) q)
      have e01 := ex'.trans ex1
      cases k with
      | true =>
        rw [if_pos rfl] at q1 ⊢
        exact ⟨fun σ'' H'' => ∃ δ' A', RS L.K A' N H'' δ' σ'' ∧ RA L A' N H'' ∧ Ext A H A' H'' ∧ dWhile (wpT (callN G n) G it) (wpSs (callN G n) G iss) m P δ' A', fun σ'' H'' q => ⟨m, Nat.lt_succ_self _, q⟩,
          N, δ', A1, _, rs1, ra1, q1, fun δ4 A4 σ4 H4 r1 r2 e q => ⟨δ4, A4, r1, r2, e01.trans e, q⟩, fun d A4 v H4 r1 r2 e q => hr d A4 v H4 r1 r2 (e01.trans e) q, fun δ4 A4 σ4 H4 r1 r2 e q => ⟨δ4, A4, r1, r2, e01.trans e, q⟩, fun x δ4 A4 σ4 H4 r0 r e q => hx x δ4 A4 σ4 H4 r0 r (e01.trans e) q⟩
      | false => rw [if_neg Bool.false_ne_true] at q1 ⊢; exact hn δ' A1 σ' H1 rs1 ra1 e01 q1
/-- a statement that is never reached, or whose rule is not wanted -/
theorem ds_never : DS L G n X st (.sub (.cst .non) (.cst .non) (.cst .non)) := fun C po W tk => ps_imp ps_never fun D σ H ⟨N, δ, A, P, rs, ra, h, _⟩ => (show False from h).elim
end

/-! ### defs -/
/-- what is known of a def of the table: its text, its slots, its body by the small language -/
structure Def1 (L : Lk) (G : Gm) (P : Program) (w : World) (mg : Str → Option Value) (f : Nat) (fd : FnD) (fdt : FuncData) (ps : List Str) : Prop where
  ex : ∃ (x qual : Str) (st : Stmt) (N : List Str), Fun L.K x qual st (L.FA f) fdt ∧ FnScope N ps (defScope st) ∧ ps.length = fd.np ∧ N.length = fd.ns ∧ Binds L.K fdt ps [] ∧
    ∀ (n : Nat) (base : Heap) (cdv : Value) (A : Around) (outer : List Env) (s : Shared) (H : Hp) (E : XK), DSs L G n (cxOf (L2.CX P w) P w L.K mg base N qual (defScope st) (L.FA f) cdv A outer s H E) (defBody st) fd.body
theorem rs_start {K : PySem.W.Frag} {A : AH} {N0 : Addr → Prop} {H : Hp} {ds : List D} {vs : List V} (r : RVs K A N0 H ds vs) (N : List Str) : RS K A N0 H (startD N.length ds) (L2.start N vs) := by
  have hl := r.length
  refine ⟨?_, fun i d e => ?_⟩
  · unfold startD L2.start
    simp only [List.length_append, List.length_map, List.length_replicate]
    omega
  · unfold startD at e
    unfold L2.start
    by_cases hi : i < ds.length
    · rw [List.getElem?_append_left (by rw [List.length_map]; exact hi), List.getElem?_map, List.getElem?_eq_getElem hi] at e
      have e : some (some ds[i]) = some (some d) := e
      cases e
      obtain ⟨v, e1, e2⟩ := RVs.get r (List.getElem?_eq_getElem hi)
      exact ⟨v, by rw [List.getElem?_append_left (by rw [List.length_map]; omega), List.getElem?_map, e1]; rfl, e2⟩
    · rw [List.getElem?_append_right (by rw [List.length_map]; omega), List.getElem?_replicate] at e
      split at e <;> cases e
theorem def_ok {L : Lk} {G : Gm} {P : Program} {w : World} {mg : Str → Option Value} {base : Heap} {n f : Nat} {fd : FnD} {fdt : FuncData} {ps : List Str} (h : Def1 L G P w mg f fd fdt ps) (hf : G.fn f = some fd) (ih : Fns L G n P w L.K mg base) (hcl : ∀ C cd, G.cl C = some cd → ClOk L G C cd) :
    FnOk P w L.K mg base (L2.CX P w) (2 * (n + 1)) (L.FA f) fdt ps (spD L (callN G (n + 1)) f) := by
  obtain ⟨x, qual, st, N, F, S, h1, h2, hb, hd⟩ := h.ex
  refine F.okX S (fun vs H Q E ⟨N, ds, A, Qd, Ed, rv, ra, z, _⟩ => ?_) (fun cdv A outer s H vs Q E hr hsp => ?_)
  · unfold callN at z
    rw [hf] at z
    rw [← rv.length, z.1, h1]
  · obtain ⟨N0, ds, A0, Qd, Ed, rv, ra, z, hq, hx⟩ := hsp
    unfold callN at z
    rw [hf] at z
    obtain ⟨z1, z2⟩ := z
    let X : Cx := cxOf (L2.CX P w) P w L.K mg base N qual (defScope st) (L.FA f) cdv A outer s H E
    have C : Cn L G n X := ⟨rfl, rfl, hr, S.nd, ih, hcl⟩
    have tk : Takes X (fun cls d _ H => E cls d H) := takes_of rfl rfl rfl rfl
    refine ⟨_, hd n base cdv A outer s H E C (passes_of (E₁ := _) rfl) _ tk, N0, startD fd.ns ds, A0, _, ?_, ra, z2, ?_, ?_, ?_, ?_⟩
    · rw [← h2]; exact rs_start rv N
    · intro δ' A' σ' H' _ r2 e ⟨B, sb, q⟩
      exact hq .non B .non H' (rv_non.mpr rfl) (r2.sub sb) (e.sub sb) q
    · intro d A' v H' r1 r2 e ⟨B, sb, q⟩
      exact hq d B v H' (RV.stay (.sub sb) _ _ r1) (r2.sub sb) (e.sub sb) q
    · intro _ _ _ _ _ _ _ q
      exact q.elim
    · intro x δ' A' σ' H' r0 r e ⟨B, sb, q⟩
      exact hx x B H' (r.sub sb) (e.sub sb) q
theorem fns_ok {L : Lk} {G : Gm} {P : Program} {w : World} {mg : Str → Option Value} {base : Heap} (h : ∀ f fd, G.fn f = some fd → ∃ fdt ps, Def1 L G P w mg f fd fdt ps) (hcl : ∀ C cd, G.cl C = some cd → ClOk L G C cd) : ∀ n, Fns L G n P w L.K mg base := by
  intro n
  induction n with
  | zero =>
    intro f fd hf
    obtain ⟨fdt, ps, D⟩ := h f fd hf
    obtain ⟨x, qual, st, N, F, S, h1, h2, hb, hd⟩ := D.ex
    exact ⟨fdt, ps, ⟨fun vs H Q E ⟨N, ds, A, Qd, Ed, _, _, z, _⟩ => (show False from z).elim, fun A outer s H args us vs Q E _ _ _ _ ⟨N, ds, A, Qd, Ed, _, _, z, _⟩ => (show False from z).elim⟩, hb, F.kp⟩
  | succ n ih =>
    intro f fd hf
    obtain ⟨fdt, ps, D⟩ := h f fd hf
    have D' := D
    obtain ⟨x, qual, st, N, F, S, h1, h2, hb, hd⟩ := D'.ex
    exact ⟨fdt, ps, def_ok D hf ih hcl, hb, F.kp⟩
/-- a table of defs, each with what is known of it -/
def AllD (R : Nat → FnD → Prop) : List (Nat × FnD) → Prop
  | [] => True
  | p :: r => R p.1 p.2 ∧ AllD R r
theorem allD_get {R : Nat → FnD → Prop} : ∀ {t : List (Nat × FnD)}, AllD R t → ∀ f fd, t.lookup f = some fd → R f fd
  | [], _, f, fd, h => by cases h
  | p :: r, hA, f, fd, h => by
    rw [show (p :: r).lookup f = match f == p.1 with | true => some p.2 | false => r.lookup f from rfl] at h
    cases e : f == p.1 with
    | true =>
      rw [e] at h
      cases h
      rw [eq_of_beq e]
      exact hA.1
    | false =>
      rw [e] at h
      exact allD_get hA.2 f fd h
end DL

set_option Elab.async false
set_option linter.all false
set_option maxRecDepth 100000
/-! short rules, and a law's end -/
namespace DL
open PySem PySem.Spec PyProof.Rows L2
section
variable {L : Lk} {G : Gm} {n : Nat} {X : Cx} {x : Str} {pos p p2 : Pos} {e a b c o i : Expr} {es : List Expr} {ie ia ib ic io ii : IE} {ies : List IE} {it : IT} {t : Tg} {k : SrcK}
theorem v_ {i : Nat} (hN : X.N[i]? = some x := by rfl) (hv : Vis X.env.scope x := by first | exact Or.inl rfl | exact Or.inr (Or.inl rfl) | exact Or.inr (Or.inr rfl)) (hd : (x == ("__debug__" : Str)) = false := by decide) (hcd : (x == ("__classdict__" : Str)) = false := by decide) : DE L G n X (.Name x pos) (.var i) := de_var hN hv hd hcd
theorem c_gint {i : Int} (hm : ∃ t, X.mg x = some (.int i t)) (hg : Gl X x := by rfl) (hd : (x == ("__debug__" : Str)) = false := by decide) : DE L G n X (.Name x pos) (.cst (.int i)) := let ⟨_, h⟩ := hm; de_gint hg h hd
theorem c_gstr {i : Str} (hm : ∃ t, X.mg x = some (.str i t)) (hg : Gl X x := by rfl) (hd : (x == ("__debug__" : Str)) = false := by decide) : DE L G n X (.Name x pos) (.cst (.str i)) := let ⟨_, h⟩ := hm; de_gstr hg h hd
theorem a_ (ha : DE L G n X e ie) (hr : DA L G n X es ies) (hs : starEach (e :: es) X.env = (false, eval e X.env) :: starEach es X.env := by rfl) : DA L G n X (e :: es) (ie :: ies) := da_cons ha hr hs
theorem o_add (ha : DE L G n X a ia) (hb : DE L G n X b ib) : DE L G n X (.BinOp a .Add b pos) (.bin .add ia ib) := de_bin op_addD (fun h => by rw [h]; exact dop_add) ha hb
theorem o_sub (ha : DE L G n X a ia) (hb : DE L G n X b ib) : DE L G n X (.BinOp a .Sub b pos) (.bin .sub ia ib) := de_bin op_sub (fun _ => dop_sub) ha hb
theorem o_mul (ha : DE L G n X a ia) (hb : DE L G n X b ib) : DE L G n X (.BinOp a .Mult b pos) (.bin .mul ia ib) := de_bin op_mulD (fun h => by rw [h]; exact dop_mul) ha hb
theorem o_fdiv (ha : DE L G n X a ia) (hb : DE L G n X b ib) : DE L G n X (.BinOp a .FloorDiv b pos) (.bin .fdiv ia ib) := de_bin op_fdiv (fun _ => dop_fdiv) ha hb
theorem o_mod (ha : DE L G n X a ia) (hb : DE L G n X b ib) : DE L G n X (.BinOp a .Mod b pos) (.bin .mod ia ib) := de_bin op_mod (fun _ => dop_mod) ha hb
/-- a comparison's two rules, packed -/
structure CmpR (L : Lk) (X : Cx) (op : CmpOp) (o : CO) : Prop where
  ex : ∃ r, OpR X (compareOp op) r ∧ (X.K = L.K → DOp L r (dCmp o))
theorem k_lt : CmpR L X .Lt .lt := ⟨_, op_lt, fun _ => dop_lt⟩
theorem k_le : CmpR L X .LtE .le := ⟨_, op_le, fun _ => dop_le⟩
theorem k_gt : CmpR L X .Gt .gt := ⟨_, op_gt, fun _ => dop_gt⟩
theorem k_ge : CmpR L X .GtE .ge := ⟨_, op_ge, fun _ => dop_ge⟩
theorem k_in : CmpR L X .In .inn := ⟨_, op_in_seq, fun h => by rw [h]; exact dop_in⟩
theorem k_nin : CmpR L X .NotIn .nin := ⟨_, op_notIn_seq, fun h => by rw [h]; exact dop_nin⟩
theorem cmpE {op : CmpOp} {o : CO} (r : CmpR L X op o) (ha : DE L G n X a ia) (hb : DE L G n X b ib) (hm : behindInMarks op b = false := by rfl) : DE L G n X (.Compare a [op] [b] pos) (.cmp o ia ib) :=
  let ⟨_, h1, h2⟩ := r.ex; de_cmp h1 h2 hm ha hb
theorem cmpT {op : CmpOp} {o : CO} (r : CmpR L X op o) (ha : DE L G n X a ia) (hb : DE L G n X b ib) (hm : behindInMarks op b = false := by rfl) : DT L G n X (.Compare a [op] [b] pos) (.val (.cmp o ia ib)) :=
  let ⟨_, h1, h2⟩ := r.ex; dt_cmp h1 h2 hm ha hb
/-- == and != : of data at any depth -/
theorem eqE (ha : DE L G n X a ia) (hb : DE L G n X b ib) (hm : behindInMarks .Eq b = false := by rfl) : DE L G n X (.Compare a [.Eq] [b] pos) (.cmp .eq ia ib) := fun C => de_cmp (op_eqD C.room.units) (fun h => by rw [h]; exact dop_eq) hm ha hb C
theorem neE (ha : DE L G n X a ia) (hb : DE L G n X b ib) (hm : behindInMarks .NotEq b = false := by rfl) : DE L G n X (.Compare a [.NotEq] [b] pos) (.cmp .ne ia ib) := fun C => de_cmp (op_neD C.room.units) (fun h => by rw [h]; exact dop_ne) hm ha hb C
theorem eqT (ha : DE L G n X a ia) (hb : DE L G n X b ib) (hm : behindInMarks .Eq b = false := by rfl) : DT L G n X (.Compare a [.Eq] [b] pos) (.val (.cmp .eq ia ib)) := fun C => dt_cmp (op_eqD C.room.units) (fun h => by rw [h]; exact dop_eq) hm ha hb C
theorem neT (ha : DE L G n X a ia) (hb : DE L G n X b ib) (hm : behindInMarks .NotEq b = false := by rfl) : DT L G n X (.Compare a [.NotEq] [b] pos) (.val (.cmp .ne ia ib)) := fun C => dt_cmp (op_neD C.room.units) (fun h => by rw [h]; exact dop_ne) hm ha hb C
theorem chnE {op op' : CmpOp} {o p : CO} (r : CmpR L X op o) (r' : CmpR L X op' p) (ha : DE L G n X a ia) (hb : DE L G n X b ib) (hc : DE L G n X c ic) (hm : lastMarks [op, op'] [b, c] = false := by with_unfolding_all rfl) : DE L G n X (.Compare a [op, op'] [b, c] pos) (.chn o p ia ib ic) :=
  let ⟨_, h1, h2⟩ := r.ex; let ⟨_, h3, h4⟩ := r'.ex; de_chn h1 h3 h2 h4 hm ha hb hc
theorem chnT {op op' : CmpOp} {o p : CO} (r : CmpR L X op o) (r' : CmpR L X op' p) (ha : DE L G n X a ia) (hb : DE L G n X b ib) (hc : DE L G n X c ic) (hm : lastMarks [op, op'] [b, c] = false := by with_unfolding_all rfl) : DT L G n X (.Compare a [op, op'] [b, c] pos) (.val (.chn o p ia ib ic)) :=
  let ⟨_, h1, h2⟩ := r.ex; let ⟨_, h3, h4⟩ := r'.ex; dt_chn h1 h3 h2 h4 hm ha hb hc
/-- an expression's truth as a test -/
theorem tv (ha : DE L G n X a ia) (he : ∀ whole, isTrue a X.env whole = (do let v ← whole; standAt a.pos; holding [v] (truthy v)) := by intro _; rfl) : DT L G n X a (.val ia) := dt_val ha he
/-- built-in functions -/
structure BiR (L : Lk) (X : Cx) (x : Str) (v : Value) (k : BI) : Prop where
  ex : (∃ id, v = .builtin id ∧ ∃ r, (X.calm = true → CallR X (.builtin id) r) ∧ (X.K = L.K → DBi L r (dBi k))) ∨ ∃ T, v = .type T ∧ ∃ r, (X.calm = true → CallR X (.type T) r) ∧ (X.K = L.K → DBi L r (dBi k))
  boot : bootBuiltins x = some v
  n1 : x ≠ "__name__"
  n2 : (x == ("__debug__" : Str)) = false
theorem b_len : BiR L X "len" (.builtin "len") .len := ⟨.inl ⟨_, rfl, _, fun _ => cr_len, fun h => by rw [h]; exact db_len⟩, by decide +kernel, by decide, by decide⟩
theorem b_sum : BiR L X "sum" (.builtin "sum") .sum := ⟨.inl ⟨_, rfl, _, cr_sum, fun h => by rw [h]; exact db_sum⟩, by decide +kernel, by decide, by decide⟩
theorem b_all : BiR L X "all" (.builtin "all") .all := ⟨.inl ⟨_, rfl, _, cr_all, fun h => by rw [h]; exact db_all⟩, by decide +kernel, by decide, by decide⟩
theorem b_any : BiR L X "any" (.builtin "any") .any := ⟨.inl ⟨_, rfl, _, cr_any, fun h => by rw [h]; exact db_any⟩, by decide +kernel, by decide, by decide⟩
theorem b_sorted : BiR L X "sorted" (.builtin "sorted") .sorted := ⟨.inl ⟨_, rfl, _, fun _ => cr_srt, fun h => by rw [h]; exact db_sorted⟩, by decide +kernel, by decide, by decide⟩
theorem b_min1 : BiR L X "min" (.builtin "min") .min1 := ⟨.inl ⟨_, rfl, _, cr_min, fun h => by rw [h]; exact db_min1⟩, by decide +kernel, by decide, by decide⟩
theorem b_max1 : BiR L X "max" (.builtin "max") .max1 := ⟨.inl ⟨_, rfl, _, cr_max, fun h => by rw [h]; exact db_max1⟩, by decide +kernel, by decide, by decide⟩
theorem b_min2 : BiR L X "min" (.builtin "min") .min2 := ⟨.inl ⟨_, rfl, _, call_min2, fun _ => db_min2⟩, by decide +kernel, by decide, by decide⟩
theorem b_max2 : BiR L X "max" (.builtin "max") .max2 := ⟨.inl ⟨_, rfl, _, call_max2, fun _ => db_max2⟩, by decide +kernel, by decide, by decide⟩
theorem b_tuple : BiR L X "tuple" (.type "tuple") .tuple := ⟨.inr ⟨_, rfl, _, fun _ => call_tuple_of, fun h => by rw [h]; exact db_tuple⟩, by decide +kernel, by decide, by decide⟩
theorem b_list : BiR L X "list" (.type "list") .list := ⟨.inr ⟨_, rfl, _, fun _ => call_list_of, fun h => by rw [h]; exact db_list⟩, by decide +kernel, by decide, by decide⟩
theorem b_int : BiR L X "int" (.type "int") .int1 := ⟨.inr ⟨_, rfl, _, fun _ => call_int1, fun _ => db_int1⟩, by decide +kernel, by decide, by decide⟩
theorem b_str : BiR L X "str" (.type "str") .str1 := ⟨.inr ⟨_, rfl, _, fun _ => call_str_int, fun _ => db_str1⟩, by decide +kernel, by decide, by decide⟩
theorem bi_ {v : Value} {k : BI} (r : BiR L X x v k) (hm : X.mg x = none) (ha : DA L G n X (e :: es) ies) (hg : Gl X x := by rfl) (he : starEach (e :: es) X.env = (false, eval e X.env) :: starEach es X.env := by rfl)
    (hpl : (backTo pos (starEach es X.env)).any (·.1) = false := by rfl) : DE L G n X (.Call (.Name x p) (e :: es) [] pos) (.bi k ies) := by
  obtain ⟨⟨id, rfl, r', h1, h2⟩ | ⟨T, rfl, r', h1, h2⟩, hv, n1, n2⟩ := r
  · exact de_bi h1 h2 hg hm hv ha n1 n2 he hpl
  · exact de_biT h1 h2 hg hm hv ha n1 n2 he hpl
theorem isi_ {k : TyK} {T : Str} (hm : X.mg "isinstance" = none) (hmT : X.mg T = none) (ha : DE L G n X a ia) (hvT : bootBuiltins T = some (.type (tkN k)) := by decide +kernel) (hnT : T ≠ "__name__" := by decide) (hdT : (T == ("__debug__" : Str)) = false := by decide) (hg : Gl X "isinstance" := by rfl) (hgT : Gl X T := by rfl)
    (hs : starEach [a, .Name T p2] X.env = (false, eval a X.env) :: starEach [.Name T p2] X.env := by rfl) (hs2 : starEach [.Name T p2] X.env = (false, eval (.Name T p2) X.env) :: starEach [] X.env := by rfl) (hpl : (backTo pos (starEach [.Name T p2] X.env)).any (·.1) = false := by rfl) :
    DE L G n X (.Call (.Name "isinstance" p) [a, .Name T p2] [] pos) (.isi k ia) := de_isi hg hm hgT hmT hvT ha hnT hdT hs hs2 hpl
theorem r1_ (hm : X.mg "range" = none) (ha : DE L G n X a ia) (hg : Gl X "range" := by rfl) (na : starEach [a] X.env = (false, eval a X.env) :: starEach [] X.env := by rfl) : DRg L G n X (.Call (.Name "range" p) [a] [] pos) [ia] := drg_1 hg hm ha na
theorem r2_ (hm : X.mg "range" = none) (ha : DE L G n X a ia) (hb : DE L G n X b ib) (hg : Gl X "range" := by rfl) (na : starEach [a, b] X.env = (false, eval a X.env) :: starEach [b] X.env := by rfl) (nb : starEach [b] X.env = (false, eval b X.env) :: starEach [] X.env := by rfl)
    (hp : (backTo pos (starEach [b] X.env)).any (·.1) = false := by rfl) : DRg L G n X (.Call (.Name "range" p) [a, b] [] pos) [ia, ib] := drg_2 hg hm ha hb na nb hp
theorem lrg_ (hm : X.mg "list" = none) (he : DRg L G n X e ies) (hg : Gl X "list" := by rfl) (na : starEach [e] X.env = (false, eval e X.env) :: starEach [] X.env := by rfl) : DE L G n X (.Call (.Name "list" p) [e] [] pos) (.rgl false ies) := de_lrg hg hm he na
theorem trg_ (hm : X.mg "tuple" = none) (he : DRg L G n X e ies) (hg : Gl X "tuple" := by rfl) (na : starEach [e] X.env = (false, eval e X.env) :: starEach [] X.env := by rfl) : DE L G n X (.Call (.Name "tuple" p) [e] [] pos) (.rgl true ies) := de_trg hg hm he na
theorem ix_ (ha : DE L G n X a ia) (hb : DE L G n X b ib) (hs : PlainIx b := by intro _ _; rfl) : DE L G n X (.Subscript a b pos) (.ix ia ib) := de_ix ha hb hs
/-- methods of lists, packed -/
structure BmR (X : Cx) (L : Lk) (name : Str) (m : BM) : Prop where
  ex : ∃ id r, Slot "list" name id ∧ typeOf (.builtin id) = pure (.type "method_descriptor") ∧ MtM X id r ∧ DBm L r m ∧ tyB m = .list
theorem m_append : BmR X L "append" .append := ⟨_, _, PySem.F.slot_list_append, PySem.F.type_list_append, mt_append, dbm_append, rfl⟩
theorem m_extend : BmR X L "extend" .extend := ⟨_, _, PySem.F.slot_list_extend, PySem.F.type_list_extend, mt_extR, dbm_extend, rfl⟩
theorem m_pop : BmR X L "pop" .pop := ⟨_, _, PySem.F.slot_list_pop, PySem.F.type_list_pop, mt_pop, dbm_pop, rfl⟩
theorem m_popi : BmR X L "pop" .popi := ⟨_, _, PySem.F.slot_list_pop, PySem.F.type_list_pop, mt_popAt, dbm_popi, rfl⟩
theorem bm_ {name : Str} {m : BM} {apos cpos : Pos} (r : BmR X L name m) (ho : DE L G n X o io) (ha : DA L G n X (e :: es) ies) (hbase : attributeBase o name X.env (eval o X.env) = eval o X.env := by rfl)
    (hfew : ((backTo cpos (starEach (e :: es) X.env)).all (fun x => !x.1) && (backToKw cpos (keywordEach [] X.env)).all (fun x => x.1.isSome) && decide ((e :: es).length + ([] : List Keyword).length + (if ([] : List Keyword).isEmpty then 0 else 1) < 30)) = true := by rfl)
    (hline : (apos.endLine == cpos.line) = true := by rfl) (hs : starEach (e :: es) X.env = (false, eval e X.env) :: starEach es X.env := by rfl) (hplain : (backTo cpos (starEach es X.env)).any (·.1) = false := by rfl) :
    DE L G n X (.Call (.Attribute o name apos) (e :: es) [] cpos) (.bm m io ies) := by
  obtain ⟨id, rr, h1, h2, h3, h4, h5⟩ := r.ex
  exact de_bm PySem.F.plainAttrs_list h1 h2 h3 h4 h5 ho ha hbase hfew hline hs hplain
theorem bm0_ {name : Str} {m : BM} {apos cpos : Pos} (r : BmR X L name m) (ho : DE L G n X o io) (hbase : attributeBase o name X.env (eval o X.env) = eval o X.env := by rfl) (hline : (apos.endLine == cpos.line) = true := by rfl) :
    DE L G n X (.Call (.Attribute o name apos) [] [] cpos) (.bm m io []) := by
  obtain ⟨id, rr, h1, h2, h3, h4, h5⟩ := r.ex
  exact de_bm0 PySem.F.plainAttrs_list h1 h2 h3 h4 h5 ho hbase hline
theorem f_ {f : Nat} {fd : FnD} (hm : X.mg x = some (.ref (L.FA f))) (ha : DA L G n X (e :: es) ies) (hG : G.fn f = some fd := by rfl) (hg : Gl X x := by rfl) (hdb : (x == ("__debug__" : Str)) = false := by decide)
    (he : starEach (e :: es) X.env = (false, eval e X.env) :: starEach es X.env := by rfl) (hpl : (backTo pos (starEach es X.env)).any (·.1) = false := by rfl) : DE L G n X (.Call (.Name x p) (e :: es) [] pos) (.call f ies) := de_call hG hg hm ha hdb he hpl
/-- targets -/
theorem g_ {i : Nat} (hi : X.N[i]? = some x := by rfl) (hx : Loc X.env.scope x := by first | exact Or.inl rfl | exact Or.inr rfl) (hf : X.fn x = true ∨ X.env.scope.names.lookup x = some .local := by first | exact .inl rfl | exact .inr rfl) : DG L G n X (.Name x pos) (.nm i) := dg_name hi hx hf
theorem gs_ {ts : List Tg} (h1 : DG L G n X e t) (h2 : DGs L G n X es ts) (hs : (assignEach (e :: es) X.env).map (·.2) = assign e X.env :: (assignEach es X.env).map (·.2) := by rfl) : DGs L G n X (e :: es) (t :: ts) := dgs_cons h1 h2 hs
theorem gt_ {ts : List Tg} {k : Nat} (h : DGs L G n X es ts) (hn : (assignEach es X.env).length = ts.length := by rfl) (hst : (assignEach es X.env).findIdx? (·.1) = none := by rfl) : DG L G n X (.Tuple es k pos) (.tp ts) := dg_tup h hn hst
theorem ir1_ {tg : Expr} (hm : X.mg "range" = none) (ha : DE L G n X a ia) (hg : Gl X "range" := by rfl) (hs : starEach [a] X.env = (false, eval a X.env) :: starEach [] X.env := by rfl) : DI L G n X tg (.Call (.Name "range" p) [a] [] pos) .rng [ia] := di_rng1 hg hm ha hs
theorem ir2_ {tg : Expr} (hm : X.mg "range" = none) (ha : DE L G n X a ia) (hb : DE L G n X b ib) (hg : Gl X "range" := by rfl) (hs : starEach [a, b] X.env = (false, eval a X.env) :: starEach [b] X.env := by rfl) (hs2 : starEach [b] X.env = (false, eval b X.env) :: starEach [] X.env := by rfl) : DI L G n X tg (.Call (.Name "range" p) [a, b] [] pos) .rng [ia, ib] := di_rng2 hg hm ha hb hs hs2
theorem iz_ {elts : List Expr} {kk : Nat} {tpos : Pos} (hm : X.mg "zip" = none) (ha : DE L G n X a ia) (hb : DE L G n X b ib) (hg : Gl X "zip" := by rfl) (hs : starEach [a, b] X.env = (false, eval a X.env) :: starEach [b] X.env := by rfl) (hs2 : starEach [b] X.env = (false, eval b X.env) :: starEach [] X.env := by rfl)
    (hpl : (backTo pos (starEach [b] X.env)).any (·.1) = false := by rfl) : DI L G n X (.Tuple elts kk tpos) (.Call (.Name "zip" p) [a, b] [] pos) .zip [ia, ib] := di_zip hg hm ha hb hs hs2 hpl
/-- statements -/
theorem s_set {j : Nat} (he : DE L G n X e ie) (hi : X.N[j]? = some x := by rfl) (hl : Loc X.env.scope x := by first | exact Or.inl rfl | exact Or.inr rfl) (hs : swapsWith e (some (.Name x p)) pos.line X.env = pure false := by rfl) (hf : X.fn x = true ∨ X.env.scope.names.lookup x = some .local := by first | exact .inl rfl | exact .inr rfl) :
    DS L G n X (.Assign [.Name x p] e pos) (.set j ie) := ds_set hi hl he hs hf
theorem s_tset {tg : Expr} (he : DE L G n X e ie) (hg : DG L G n X tg t) (hs : swapsWithSole [tg] e pos.line X.env = pure false := by rfl) (hw : swappedStores [tg] e X.env = pure none := by rfl) (h1 : (assignEach [tg] X.env).map (·.2) = [assign tg X.env] := by rfl) : DS L G n X (.Assign [tg] e pos) (.tset t ie) := ds_tset he hg hs hw h1
theorem s_par2 {j l : Nat} {y : Str} {px py pt : Pos} {kt k2 : Nat} {pt2 : Pos} (ha : DA L G n X [a, b] ies) (hi : X.N[j]? = some x := by rfl) (hj : X.N[l]? = some y := by rfl) (hij : j ≠ l := by decide) (hx : X.env.scope.names.lookup x = some .local := by rfl) (hy : X.env.scope.names.lookup y = some .local := by rfl)
    (hw : swappedStores [.Tuple [.Name x px, .Name y py] kt pt] (.Tuple [a, b] k2 pt2) X.env = pure (some [x, y]) := by rfl) (hs : swapsWithSole [.Tuple [.Name x px, .Name y py] kt pt] (.Tuple [a, b] k2 pt2) pos.line X.env = pure false := by rfl) :
    DS L G n X (.Assign [.Tuple [.Name x px, .Name y py] kt pt] (.Tuple [a, b] k2 pt2) pos) (.par [j, l] ies) := ds_par2 hi hj hij hx hy ha hw hs
theorem s_par3 {j l m : Nat} {y z : Str} {c : Expr} {px py pz pt : Pos} {kt k2 : Nat} {pt2 : Pos} (ha : DA L G n X [a, b, c] ies) (hi : X.N[j]? = some x := by rfl) (hj : X.N[l]? = some y := by rfl) (hm : X.N[m]? = some z := by rfl) (hij : j ≠ l := by decide) (him : j ≠ m := by decide) (hjm : l ≠ m := by decide)
    (hx : X.env.scope.names.lookup x = some .local := by rfl) (hy : X.env.scope.names.lookup y = some .local := by rfl) (hz : X.env.scope.names.lookup z = some .local := by rfl)
    (hw : swappedStores [.Tuple [.Name x px, .Name y py, .Name z pz] kt pt] (.Tuple [a, b, c] k2 pt2) X.env = pure (some [x, y, z]) := by rfl) (hs : swapsWithSole [.Tuple [.Name x px, .Name y py, .Name z pz] kt pt] (.Tuple [a, b, c] k2 pt2) pos.line X.env = pure false := by rfl) :
    DS L G n X (.Assign [.Tuple [.Name x px, .Name y py, .Name z pz] kt pt] (.Tuple [a, b, c] k2 pt2) pos) (.par [j, l, m] ies) := ds_par3 hi hj hm hij him hjm hx hy hz ha hw hs
theorem s_sub {sp : Pos} (he : DE L G n X e ie) (ho : DE L G n X o io) (hi : DE L G n X i ii)
    (ha : ∀ v, assign (.Subscript o i sp) X.env v = (do
      let ov ← holding [v] (eval o X.env)
      let iv ← holding [v, ov] (eval i X.env)
      standAt sp
      holding [v, ov, iv] (setItem ov iv v)
      release [v, ov, iv] []) := by intro _; rfl)
    (hs : swapsWithSole [.Subscript o i sp] e pos.line X.env = pure false := by rfl) (hw : swappedStores [.Subscript o i sp] e X.env = pure none := by rfl) (h1 : (assignEach [.Subscript o i sp] X.env).map (·.2) = [assign (.Subscript o i sp) X.env] := by rfl) :
    DS L G n X (.Assign [.Subscript o i sp] e pos) (.sub io ii ie) := ds_sub he ho hi ha hs hw h1
theorem s_expr (he : DE L G n X e ie) (hs : swapsWith e none pos.line X.env = pure false := by rfl) : DS L G n X (.Expr e pos) (.expr ie) := ds_expr he hs
theorem s_for {tg iter : Expr} {body : List Stmt} {iss : List IS} (hi : DI L G n X tg iter k ies) (hg : DG L G n X tg t) (hb : DSs L G n X body iss) (hs : ∀ x, foldedSetIterable iter X.env x = pure x := by intro _; rfl) : DS L G n X (.For tg iter body [] pos) (.for k ies t iss) := ds_for hi hg hb hs
/-- comprehensions: own names' places are vs -/
theorem lc_ {tg iter elt : Expr} {ifs : List Expr} {scope : Scope} (own : List (Str × Nat)) (hi : DI L G n X tg iter k ies)
    (hg : ∀ (s : Shared) (H : Hp) (C : Addr) (cl : List (Str × Addr)) (fp : List Addr), DG L G n (X.blk s H scope (compEnvC scope cl C X.env) fp) tg t)
    (ht : ∀ (s : Shared) (H : Hp) (C : Addr) (cl : List (Str × Addr)) (fp : List Addr), DTs L G n (X.blk s H scope (compEnvC scope cl C X.env) fp) ifs it)
    (he : ∀ (s : Shared) (H : Hp) (C : Addr) (cl : List (Str × Addr)) (fp : List Addr), DE L G n (X.blk s H scope (compEnvC scope cl C X.env) fp) elt ie)
    (ok : BlkOk X.N X.env.scope scope own) (hvs : ∀ i ∈ slots t, i ∈ own.map (·.2) := by decide) (hs : ∀ x, foldedSetIterable iter X.env x = pure x := by intro _; rfl) : DE L G n X (.ListComp elt [⟨tg, iter, ifs, 0⟩] scope pos) (.comp k ies (own.map (·.2)) t it ie) := de_comp hi ok hvs hg ht he hs
theorem slc_ {j : Nat} {tg iter elt : Expr} {ifs : List Expr} {scope : Scope} {cpos : Pos} (own : List (Str × Nat)) (hi : DI L G n X tg iter k ies)
    (hg : ∀ (s : Shared) (H : Hp) (C : Addr) (cl : List (Str × Addr)) (fp : List Addr), DG L G n (X.blk s H scope (compEnvC scope cl C X.env) fp) tg t)
    (ht : ∀ (s : Shared) (H : Hp) (C : Addr) (cl : List (Str × Addr)) (fp : List Addr), DTs L G n (X.blk s H scope (compEnvC scope cl C X.env) fp) ifs it)
    (he : ∀ (s : Shared) (H : Hp) (C : Addr) (cl : List (Str × Addr)) (fp : List Addr), DE L G n (X.blk s H scope (compEnvC scope cl C X.env) fp) elt ie)
    (ok : BlkOk X.N X.env.scope scope own) (hsw : swapsWith (.ListComp elt [⟨tg, iter, ifs, 0⟩] scope cpos) (some (.Name x p)) pos.line X.env = pure true) (hy : X.N[j]? = some x := by rfl) (hyl : X.env.scope.names.lookup x = some .local := by rfl)
    (hvs : ∀ i ∈ slots t, i ∈ own.map (·.2) := by decide) (hs : ∀ x, foldedSetIterable iter X.env x = pure x := by intro _; rfl) : DS L G n X (.Assign [.Name x p] (.ListComp elt [⟨tg, iter, ifs, 0⟩] scope cpos) pos) (.set j (.comp k ies (own.map (·.2)) t it ie)) := ds_setLc hy hyl hsw hi ok hvs hg ht he hs
end

/-! ### the law's end -/
def spLaw (K : PySem.W.Frag) : Sp := fun vs H Q _ => ∃ (a : Addr) (ns : List Int), vs = [.ref a] ∧ SqR K (fun _ => none) (fun _ => False) H a (ns.map V.int) ∧ ns.length ≤ 63 ∧ ∀ H', Q (.bl true) H'
theorem sqR_of {K : PySem.W.Frag} {H : Hp} {a : Addr} {xs : List V} (h : L2.Only H) (s : SqL K H a xs) : SqR K (fun _ => none) (fun _ => False) H a xs := by
  rcases s with s | s
  · exact .inl ⟨s, rfl, fun z => z⟩
  · exact .inr s
theorem law_ok {L : Lk} {G : Gm} {P : Program} {w : World} {mg : Str → Option Value} {base : Heap} {f k : Nat} {fd : FnD} {fdt : FuncData} {ps : List Str} (h : ∀ f fd, G.fn f = some fd → ∃ fdt ps, Def1 L G P w mg f fd fdt ps) (hcl : ∀ C cd, G.cl C = some cd → ClOk L G C cd) (D : Def1 L G P w mg f fd fdt ps) (hf : G.fn f = some fd)
    (hl : ∀ ns : List Int, ns.length ≤ 63 → callN G (k + 1) f [.rol (ns.map .int)] (fun _ => none) (fun d _ => d = .bl true) (fun _ _ => False)) :
    FnOk P w L.K mg base (L2.CX P w) (2 * (k + 1)) (L.FA f) fdt ps (spLaw L.K) := by
  refine (def_ok D hf (fns_ok h hcl k) hcl).imp fun vs H Q E ⟨a, ns, e, hs, hn, q⟩ => ?_
  subst e
  refine ⟨fun _ => False, [.rol (ns.map .int)], fun _ => none, _, _, .cons (rv_rol.mpr ⟨a, _, rfl, hs, RVs.of_ints ns⟩) .nil, ⟨(by intro b o z; cases z), (by intro b z; exact z.elim)⟩, hl ns hn, fun d A' v H' rv _ _ ed => ?_, fun _ _ _ _ _ z => (show False from z).elim⟩
  subst ed
  rw [rv_bl.mp rv]
  exact q H'
theorem no_cx {P : Program} {w : World} {H : Hp} {s s' : Shared} {e : Value} (h : L2.CX P w [] H s (fun _ _ _ => False) e s') : False := by
  obtain ⟨_, _, _, _, _, _, _, _, _, _, _, _, z⟩ := h
  exact z
end DL

set_option Elab.async false
set_option linter.all false
set_option maxRecDepth 100000
/-! xs[::-1], a list or a tuple; a chain of three comparisons; range(..) with a step -/
namespace DL
open PySem PySem.Spec PyProof.Rows L2
section
variable {prog : Program} {w : World} {A : Around} {E : Value → Shared → Prop} {s : Shared}
theorem applied_rev {sl : Addr} {t : Tok} {m : Nat} {Q : Int × Int × Nat → Shared → Prop} (hs : s.heap.IsSliceOf sl .none .none (.int (-1) t)) (q : Q ((m : Int) - 1, -1, m) s) : wpAny (model prog w) A (Builtin.Slice.sliceApplied (.ref sl) (pure (m : Int))) Q E s := by
  obtain ⟨ob, h1, h2, h3⟩ := hs
  unfold Builtin.Slice.sliceApplied Builtin.Slice.sliceFields
  refine wpAny_bind (wpAny_bind (wpAny_field h1 h3 (x := .none) rfl (wpAny_bind (wpAny_field h1 h3 (x := .none) rfl (wpAny_bind (wpAny_field h1 h3 (x := .int (-1) t) rfl (wpAny_pure ?_)))))))
  refine wpAny_bind (slicePart_int ?_)
  show wpAny _ _ (if ((-1 : Int) == 0) = true then _ else _) _ _ s
  rw [if_neg (by decide)]
  refine wpAny_bind (slicePart_none (wpAny_bind (slicePart_none (wpAny_bind (wpAny_pure ?_)))))
  have e : Builtin.Slice.sliceAdjust none none (-1) (m : Int) = ((m : Int) - 1, -1) := by
    unfold Builtin.Slice.sliceAdjust
    simp
  have e2 : Builtin.Slice.slicePlaces ((m : Int) - 1) (-1) (-1) = m := by
    unfold Builtin.Slice.slicePlaces
    simp
    omega
  show wpAny _ _ (match Builtin.Slice.sliceAdjust none none (-1) (m : Int) with | (lo, hi) => pure (lo, (-1 : Int), Builtin.Slice.slicePlaces lo hi (-1))) _ _ s
  rw [e]
  show wpAny _ _ (pure ((m : Int) - 1, (-1 : Int), Builtin.Slice.slicePlaces ((m : Int) - 1) (-1) (-1))) _ _ s
  rw [e2]
  exact wpAny_pure q
theorem pick_rev (xs : Array Value) : ((List.range xs.size).filterMap fun (k : Nat) => xs[(((xs.size : Int) - 1) + (k : Int) * -1).toNat]?).toArray = xs.toList.reverse.toArray := by
  congr 1
  have e : ∀ m : Nat, m ≤ xs.size → ((List.range m).filterMap fun (k : Nat) => xs[(((xs.size : Int) - 1) + (k : Int) * -1).toNat]?) = xs.toList.reverse.take m := by
    intro m
    induction m with
    | zero => intro _; simp
    | succ m ih =>
      intro h
      rw [List.range_succ, List.filterMap_append, ih (by omega), List.take_add_one]
      congr 1
      have e1 : (((xs.size : Int) - 1) + (m : Int) * -1).toNat = xs.size - 1 - m := by omega
      have h3 : xs.size - 1 - m < xs.size := by omega
      have e2 : xs.toList.reverse[m]? = some xs[xs.size - 1 - m] := by
        rw [List.getElem?_reverse (by rw [Array.length_toList]; omega)]
        simp [h3]
      rw [List.filterMap_cons, e1, List.filterMap_nil, e2, Array.getElem?_eq_getElem h3]
      rfl
  rw [e xs.size (Nat.le_refl _), List.take_of_length_le (by simp)]
theorem tuple_rev {t sl : Addr} {items : Array Value} {k : Tok} {Q : Value → Shared → Prop} (ht : IsTup s.heap t items) (hs : s.heap.IsSliceOf sl .none .none (.int (-1) k)) (hz : items.size ≤ sizeLine)
    (q : Q (.ref s.heap.objs.size) { s with heap := s.heap.push { cls := .type "tuple", data := .seq items.toList.reverse.toArray } }) : wpAny (model prog w) A (getItem (.ref t) (.ref sl)) Q E s := by
  obtain ⟨ob, h1, h2, h3⟩ := id hs
  have ty : s.TypeIs (.ref sl) "slice" := ⟨ob, h1, h2⟩
  have sz : sizeOk (.seq items.toList.reverse.toArray) := by
    show items.toList.reverse.toArray.size ≤ sizeLine
    simpa using hz
  unfold getItem
  refine wpAny_holding ?_
  refine wpAny_bind (wpAny_sequenceKey ht.typeIs (by decide) (wpAny_bind (wpAny_callSpecial?_slot (name := Str.ofString "__getitem__") ht.typeIs PyProof.Rows.slot_tuple_getitem
    (wpAny_call_entry PyProof.Rows.slot_tuple_getitem ht.typeIs entry_tuple_getitem ?_ (args_tuple_getitem _ _)))))
  show wpAny _ _ (Builtin.Tuple.tupleItemsOf (.ref t) >>= _) _ _ s
  refine wpAny_bind (tupleItemsOf_ ht (wpAny_bind (wpAny_typeOf ty ?_)))
  rw [if_pos (by decide)]
  refine wpAny_bind (applied_rev hs ?_)
  have no : ¬ ((((items.size : Int) - 1) == 0 && (-1 : Int) == 1 && items.size == items.size) = true) := by
    intro z
    rw [Bool.and_eq_true, Bool.and_eq_true] at z
    exact absurd z.1.2 (by decide)
  show wpAny _ _ (if (((items.size : Int) - 1) == 0 && (-1 : Int) == 1 && items.size == items.size) = true then _ else _) _ _ s
  rw [if_neg no, pick_rev]
  first
    | exact wpAny_bind (m := Builtin.Tuple.tupleExact _) (wpAny_newObj_type (wpAny_pure ⟨_, rfl, wpAny_pure q⟩) sz)
    | exact wpAny_bind (m := Builtin.Tuple.tupleExact _) (wpAny_newObj_type (wpAny_bind (wpAny_pure (wpAny_pure ⟨_, rfl, wpAny_pure q⟩))) sz)
    | exact wpAny_bind (wpAny_bind (m := Builtin.Tuple.tupleExact _) (wpAny_newObj_type (wpAny_pure ⟨_, rfl, wpAny_pure q⟩) sz))
end
section
variable {L : Lk} {G : Gm} {n : Nat} {X : Cx} {a b c d e : Expr} {ia ib ic id ie : IE} {pos p1 p2 p3 : Pos}
def tRevA (K : PySem.W.Frag) (te : TE) : TE := fun σ H Q => te σ H fun x H1 => ∃ q xs, x = .ref q ∧ ((SqL K H1 q xs ∧ ∀ p, H1 p = none → Q (.ref p) (upd H1 p (.lst xs.reverse))) ∨ (SqT K H1 q xs ∧ ∀ p, H1 p = none → Q (.ref p) (upd H1 p (.tup xs.reverse))))
theorem pe_revA {k : Nat} {te : TE} (he : PE X e te) : PE X (.Subscript e (.Slice none none (some (.UnaryOp .USub (.Constant (.int 1) k p1) p2)) p3) pos) (tRevA X.K te) := by
  constructor
  intro pins s σ H Q I h
  refine Subscript_ (thn (he.run pins s σ H _ I h) fun v s1 ⟨x, H1, I1, r1, q1⟩ => ?_)
  obtain ⟨q, xs, rfl, q1⟩ := q1
  cases r1
  have st : PO X (some (.UnaryOp .USub (.Constant (.int 1) k p1) p2)) (tPart (tUn (rU fun i => .int (-i)) (tC (.int 1)))) := po_some (pe_un un_neg pe_int)
  refine wpAny_Slice (thn (po_none.run pins s1 σ H1 (fun o H2 => o = none ∧ H2 = H1) I1 ⟨rfl, rfl⟩) fun vl s2 ⟨l, H2, I2, pl, e1, e2⟩ => ?_)
  subst e1 e2
  refine thn (po_none.run pins s2 σ H2 (fun o H3 => o = none ∧ H3 = H2) I2 ⟨rfl, rfl⟩) fun vu s3 ⟨u, H3, I3, pu, e1, e2⟩ => ?_
  subst e1 e2
  refine thn (st.run pins s3 σ H3 (fun o H4 => o = some (-1) ∧ H4 = H3) I3 ⟨1, rfl, -1, rfl, rfl, rfl⟩) fun vs s4 ⟨o, H4, I4, ps, e1, e2⟩ => ?_
  subst e1 e2
  have I5 : Inv X pins σ H4 { s4 with heap := s4.heap.push { cls := .type "slice", data := .fields #[vl, vu, vs] } } := I4.kept (t' := s4.toks) fun b ob z => Heap.get?_push_of_some _ z
  show wpAny (model X.prog X.w) X.A (subscriptTail e (.Slice none none (some (.UnaryOp .USub (.Constant (.int 1) k p1) p2)) p3) (.ref q) (.ref s4.heap.objs.size)) (EP X pins σ Q) X.xe { s4 with heap := s4.heap.push { cls := .type "slice", data := .fields #[vl, vu, vs] } }
  rcases q1 with ⟨hx, q1⟩ | ⟨hx, q1⟩
  · obtain ⟨its, r, ht, hz⟩ := I5.list hx
    have hlen := r.length
    refine tail_any (ops := [.ref q, .ref s4.heap.objs.size]) ht.isList.typeIs (PySem.slot_list_getitem.lookup) ?_ (by with_unfolding_all rfl)
    refine wpAny_getItem_list_slice ht.isList (Heap.IsSliceOf.new _ vl vu vs) pl pu ps (by decide) ?_ (by rw [List.size_toArray]; omega)
    rw [PySem.W.krv_pick]
    exact ⟨.ref _, _, I5.laid (t' := s4.toks) (o := .lst xs.reverse) (fun b ob z => Heap.get?_push_of_some _ z) (Nat.le_refl _) ⟨by rw [List.length_reverse]; exact hz, _, 0, r.reverse, Heap.get?_push_size _ rfl⟩, rfl, q1 _ (I5.hok.fresh (Nat.le_refl _))⟩
  · obtain ⟨its, r, ht, hz⟩ := I5.tuple hx
    have hlen := r.length
    refine tail_any (ops := [.ref q, .ref s4.heap.objs.size]) ht.typeIs (PyProof.Rows.slot_tuple_getitem.lookup) ?_ (by with_unfolding_all rfl)
    cases pl
    cases pu
    cases ps with
    | int i t =>
      refine tuple_rev ht (Heap.IsSliceOf.new _ _ _ _) (by rw [List.size_toArray]; omega) ?_
      exact ⟨.ref _, _, I5.laid (t' := s4.toks) (o := .tup xs.reverse) (fun b ob z => Heap.get?_push_of_some _ z) (Nat.le_refl _) ⟨by rw [List.length_reverse]; exact hz, _, r.reverse, ⟨_, Heap.get?_push_size _ rfl, rfl, _, rfl⟩⟩, rfl, q1 _ (I5.hok.fresh (Nat.le_refl _))⟩
theorem rev_ {k : Nat} (he : DE L G n X e ie) : DE L G n X (.Subscript e (.Slice none none (some (.UnaryOp .USub (.Constant (.int 1) k p1) p2)) p3) pos) (.rev ie) := fun C W tk =>
  pe_imp (pe_revA (he C W tk)) fun σ H Q ⟨N, δ, A, Qd, Ed, rs, ra, h, hq, hx⟩ =>
    LE.use rs ra h (fun x A1 v1 H1 rv1 ra1 ex1 rs1 q1 => by
      have k1 : Kt L A1 N H1 Qd Q := fun d A' v' H' r1 r2 e q => hq d A' v' H' r1 r2 (ex1.trans e) q
      rw [C.K]
      cases x with
      | tup xs =>
        obtain ⟨q, vs, rfl, h1, h2⟩ := rv_tup.mp rv1
        exact ⟨q, vs, rfl, .inr ⟨h1, k1.tup ra1 h2.reverse q1⟩⟩
      | rol xs =>
        obtain ⟨q, vs, rfl, h1, h2⟩ := rv_rol.mp rv1
        exact ⟨q, vs, rfl, .inl ⟨h1.seq, k1.lst ra1 h2.reverse q1⟩⟩
      | fl xs =>
        obtain ⟨q, vs, rfl, h1, h2⟩ := rv_fl.mp rv1
        exact ⟨q, vs, rfl, .inl ⟨.inl h1.1, k1.lst ra1 h2.reverse q1⟩⟩
      | ref q =>
        simp only [dRev] at q1
        split at q1
        · next xs e =>
          obtain ⟨vs, h1, h2⟩ := ra1 q _ e
          exact ⟨q, vs, rv_ref.mp rv1, .inl ⟨SqL.of h1, k1.lst ra1 h2.reverse q1⟩⟩
        · exact q1.elim
      | _ => exact (show False from q1).elim) hx
end
end DL

set_option Elab.async false
set_option linter.all false
set_option maxRecDepth 100000
/-! a chain of three comparisons -/
namespace DL
open PySem PySem.Spec PyProof.Rows L2
section
variable {X : Cx} {a b c d : Expr} {ta tb tc td : TE} {pos : Pos}
def tChain3 (r r' r'' : R2) (ta tb tc td : TE) : TE := fun σ H Q => ta σ H fun x H1 => tb σ H1 fun y H2 => r x y H2 fun z H3 => ∃ k, z = .bl k ∧
  (if k = true then tc σ H3 fun w' H4 => r' y w' H4 (fun z2 H5 => ∃ l, z2 = .bl l ∧ (if l = true then td σ H5 fun w2 H6 => r'' w' w2 H6 Q else Q (.bl false) H5)) else Q (.bl false) H3)
theorem pe_chain3 {op op' op'' : CmpOp} {r r' r'' : R2} (ho : OpR X (compareOp op) r) (ho' : OpR X (compareOp op') r') (ho'' : OpR X (compareOp op'') r'') (ha : PE X a ta) (hb : PE X b tb) (hc : PE X c tc) (hd : PE X d td)
    (hm : lastMarks [op, op', op''] [b, c, d] = false) : PE X (.Compare a [op, op', op''] [b, c, d] pos) (tChain3 r r' r'' ta tb tc td) := by
  refine ⟨fun pins s σ H Q I h => ?_⟩
  refine Compare_chain (thn (ha.run pins s σ H _ I h) fun v s1 ⟨x, H1, I1, r1, q1⟩ => chain_link (thn (hb.run pins s1 σ H1 _ I1 q1) fun u s2 ⟨y, H2, I2, r2, q2⟩ =>
    thn (ho pins s2 σ H2 x y v u _ I2 r1 r2 q2) fun d' s3 ⟨z, H3, I3, r3, k, e, q3⟩ => ?_)) hm
  subst e
  cases r3
  refine wpAny_truthy_bool ?_
  cases k with
  | false => exact ite_ff ⟨.bl false, H3, I3, rfl, q3⟩
  | true =>
    refine ite_tt (chain_link (thn (hc.run pins s3 σ H3 _ I3 q3) fun w' s4 ⟨z', H4, I4, r4, q4⟩ => thn (ho' pins s4 σ H4 y z' u w' _ I4 r2 r4 q4) fun d2 s5 ⟨z5, H5, I5, r5, l, e5, q5⟩ => ?_))
    subst e5
    cases r5
    refine wpAny_truthy_bool ?_
    cases l with
    | false => exact ite_ff ⟨.bl false, H5, I5, rfl, q5⟩
    | true => exact ite_tt (chain_last (thn (hd.run pins s5 σ H5 _ I5 q5) fun w2 s6 ⟨z6, H6, I6, r6, q6⟩ => ho'' pins s6 σ H6 z' z6 w' w2 Q I6 r4 r6 q6))
end
section
variable {L : Lk} {G : Gm} {n : Nat} {X : Cx} {a b c d : Expr} {ia ib ic id' : IE} {pos : Pos}
theorem de_ch3 {op op' op'' : CmpOp} {o p q : CO} {r r' r'' : R2} (ho : OpR X (compareOp op) r) (ho' : OpR X (compareOp op') r') (ho'' : OpR X (compareOp op'') r'') (hr : X.K = L.K → DOp L r (dCmp o)) (hr' : X.K = L.K → DOp L r' (dCmp p)) (hr'' : X.K = L.K → DOp L r'' (dCmp q)) (hm : lastMarks [op, op', op''] [b, c, d] = false)
    (ha : DE L G n X a ia) (hb : DE L G n X b ib) (hc : DE L G n X c ic) (hd : DE L G n X d id') : DE L G n X (.Compare a [op, op', op''] [b, c, d] pos) (.ch3 o p q ia ib ic id') := fun C W tk =>
  pe_imp (pe_chain3 ho ho' ho'' (ha C W tk) (hb C W tk) (hc C W tk) (hd C W tk) hm) fun σ H Q ⟨N, δ, A, Qd, Ed, rs, ra, h, hq, hx⟩ =>
    LE.use rs ra h (fun x A1 v1 H1 rv1 ra1 ex1 rs1 q1 => LE.use rs1 ra1 q1 (fun y A2 v2 H2 rv2 ra2 ex2 rs2 q2 =>
      hr C.K x y v1 v2 A2 N H2 _ _ (RV.stay (ex2.stay ra1) _ _ rv1) rv2 ra2 (dCmp_bl q2) fun d A3 v3 H3 r1 r2 ex3 q' => by
        obtain ⟨k, rfl, q'⟩ := q'
        refine ⟨k, rv_bl.mp r1, ?_⟩
        have e3 := (ex1.trans ex2).trans ex3
        have q' : (if k = true then wpE (callN G n) G ic δ A3 (fun z A4 => dCmp p y z A4 (bTst fun l A5 => if l = true then wpE (callN G n) G id' δ A5 (fun u A6 => dCmp q z u A6 Qd) Ed else Qd (.bl false) A5)) Ed else Qd (.bl false) A3) := q'
        have rs3 := rs2.stay (ex3.stay ra2)
        have rv3 := RV.stay (ex3.stay ra2) _ _ rv2
        cases k with
        | true =>
          rw [if_pos rfl] at q' ⊢
          refine LE.use rs3 r2 q' (fun z A4 v4 H4 rv4 ra4 ex4 rs4 q4 => hr' C.K y z v2 v4 A4 N H4 _ _ (RV.stay (ex4.stay r2) _ _ rv3) rv4 ra4 (dCmp_bl q4) fun d A5 v5 H5 r5 ra5 ex5 q5 => ?_) (XW.ext hx e3)
          obtain ⟨l, rfl, q5⟩ := q5
          refine ⟨l, rv_bl.mp r5, ?_⟩
          have e5 := (e3.trans ex4).trans ex5
          have q5 : (if l = true then wpE (callN G n) G id' δ A5 (fun u A6 => dCmp q z u A6 Qd) Ed else Qd (.bl false) A5) := q5
          have rs5 := rs4.stay (ex5.stay ra4)
          have rv5 := RV.stay (ex5.stay ra4) _ _ rv4
          cases l with
          | true =>
            rw [if_pos rfl] at q5 ⊢
            exact LE.use rs5 ra5 q5 (fun u A6 v6 H6 rv6 ra6 ex6 rs6 q6 => hr'' C.K z u v4 v6 A6 N H6 Q Qd (RV.stay (ex6.stay ra5) _ _ rv5) rv6 ra6 q6 fun d A' v' H' r1 r2 e q => hq d A' v' H' r1 r2 ((e5.trans ex6).trans e) q) (XW.ext hx e5)
          | false => rw [if_neg Bool.false_ne_true] at q5 ⊢; exact hq _ A5 _ H5 (rv_bl.mpr rfl) ra5 e5 q5
        | false => rw [if_neg Bool.false_ne_true] at q' ⊢; exact hq _ A3 _ H3 (rv_bl.mpr rfl) r2 e3 q') (XW.ext hx ex1)) hx
theorem ch3E {op op' op'' : CmpOp} {o p q : CO} (r : CmpR L X op o) (r' : CmpR L X op' p) (r'' : CmpR L X op'' q) (ha : DE L G n X a ia) (hb : DE L G n X b ib) (hc : DE L G n X c ic) (hd : DE L G n X d id') (hm : lastMarks [op, op', op''] [b, c, d] = false := by with_unfolding_all rfl) : DE L G n X (.Compare a [op, op', op''] [b, c, d] pos) (.ch3 o p q ia ib ic id') :=
  let ⟨_, h1, h2⟩ := r.ex; let ⟨_, h3, h4⟩ := r'.ex; let ⟨_, h5, h6⟩ := r''.ex; de_ch3 h1 h3 h5 h2 h4 h6 hm ha hb hc hd
end
end DL

set_option Elab.async false
set_option linter.all false
set_option maxRecDepth 100000
/-! objects: fields, methods, new ones -/
namespace DL
open PySem PySem.Spec PyProof.Rows L2
/-! ### fields by name -/
theorem zip_get {f : Str} : ∀ {ns : List Str} {vs : List V} {i : Nat} {v : V}, ns.Nodup → ns[i]? = some f → vs[i]? = some v → (ns.zip vs).lookup f = some v
  | [], _, _, _, _, h, _ => by simp at h
  | n :: ns, [], i, v, _, _, h => by simp at h
  | n :: ns, w :: vs, 0, v, nd, h1, h2 => by
    simp at h1 h2; subst h1 h2
    simp [List.lookup]
  | n :: ns, w :: vs, i + 1, v, nd, h1, h2 => by
    rw [List.nodup_cons] at nd
    rw [List.getElem?_cons_succ] at h1 h2
    have hne : (f == n) = false := beq_eq_false_iff_ne.mpr fun z => by subst z; exact nd.1 (List.mem_of_getElem? h1)
    rw [List.zip_cons_cons, List.lookup, hne]
    exact zip_get nd.2 h1 h2
theorem zip_no {f : Str} : ∀ {ns : List Str} {vs : List V}, f ∉ ns → (ns.zip vs).lookup f = none
  | [], _, _ => by simp
  | n :: ns, [], _ => by simp
  | n :: ns, w :: vs, h => by
    rw [List.mem_cons, not_or] at h
    rw [List.zip_cons_cons, List.lookup, beq_eq_false_iff_ne.mpr h.1]
    exact zip_no h.2
def putV (vs : List V) (k : Nat) (v : V) : List V := if k < vs.length then vs.set k v else vs ++ [v]
theorem zip_put {f : Str} {v : V} : ∀ {ns : List Str} {vs : List V} {i : Nat}, ns.Nodup → ns[i]? = some f → i ≤ vs.length → putF f v (ns.zip vs) = ns.zip (putV vs i v)
  | [], _, _, _, h, _ => by simp at h
  | n :: ns, [], i, nd, h, hi => by
    have hi : i = 0 := by simpa using hi
    subst hi
    simp at h; subst h
    unfold putV
    rw [if_neg (by simp)]
    show [(n, v)] = _
    simp
  | n :: ns, w :: vs, 0, nd, h, hi => by
    simp at h; subst h
    show (if n = n then _ else _) = _
    rw [if_pos rfl]
    unfold putV
    rw [if_pos (by simp)]
    rfl
  | n :: ns, w :: vs, i + 1, nd, h, hi => by
    rw [List.nodup_cons] at nd
    rw [List.getElem?_cons_succ] at h
    have hne : ¬ n = f := fun z => by subst z; exact nd.1 (List.mem_of_getElem? h)
    show (if n = f then (n, v) :: ns.zip vs else (n, w) :: putF f v (ns.zip vs)) = _
    rw [if_neg hne, zip_put (ns := ns) (vs := vs) (i := i) nd.2 h (by simpa using hi)]
    unfold putV
    rw [List.length_cons]
    by_cases q : i < vs.length
    · rw [if_pos q, if_pos (by omega)]; rfl
    · rw [if_neg q, if_neg (by omega)]; rfl
theorem RVs.putV {K : PySem.W.Frag} {A : AH} {N : Addr → Prop} {H : Hp} {fs : List D} {vs : List V} {d : D} {v : V} (r : RVs K A N H fs vs) (rd : RV K A N H d v) (k : Nat) : RVs K A N H (putF' fs k d) (DL.putV vs k v) := by
  unfold putF' DL.putV
  rw [r.length]
  split
  · exact RVs.set rd k r
  · exact r.snoc rd
theorem putF'_len {fs : List D} {k n : Nat} {d : D} (h : fs.length ≤ n) (hk : k < n) : (putF' fs k d).length ≤ n := by
  unfold putF'
  split
  · rw [List.length_set]; exact h
  · rw [List.length_append, List.length_singleton]; omega
section
variable {L : Lk} {G : Gm} {n : Nat} {X : Cx} {a b c e o : Expr} {es : List Expr} {ia ib ic ie io : IE} {ies : List IE} {pos p p2 apos cpos : Pos} {x f m : Str}
theorem de_fld {C i : Nat} {cd : ClD} (hC : G.cl C = some cd) (hf : (L.FN C)[i]? = some f) (ho : DE L G n X o io) (hb : attributeBase o f X.env (eval o X.env) = eval o X.env) : DE L G n X (.Attribute o f pos) (.fld C i io) := fun C' W tk =>
  pe_imp (pe_fld (ho C' W tk) hb) fun σ H Q ⟨N, δ, A, Qd, Ed, rs, ra, h, hq, hx⟩ =>
    LE.use rs ra h (fun d A1 v1 H1 rv1 ra1 ex1 rs1 q1 => by
      have K := C'.cls C cd hC
      cases d with
      | ref q =>
        simp only at q1
        split at q1
        · next c' fs e =>
          obtain ⟨rfl, q1⟩ := q1
          split at q1
          · next d e2 =>
            obtain ⟨dx, vs, h1, h2, h3⟩ := ra1 q _ e
            obtain ⟨v, h4, h5⟩ := RVs.get h2 e2
            rw [C'.K]
            exact ⟨q, _, dx, _, v, rv_ref.mp rv1, h1, K.cls, K.nof f (List.mem_of_getElem? hf), zip_get K.nod hf h4, hq _ A1 _ H1 h5 ra1 ex1 q1⟩
          · exact q1.elim
        · exact q1.elim
      | _ => exact (show False from q1).elim) hx
theorem fns_call {L : Lk} {G : Gm} {n : Nat} {X : Cx} (C : Cn L G n X) {f : Nat} {fd : FnD} (hG : G.fn f = some fd) : ∃ fdt ps, FnOk X.prog X.w X.K X.mg X.base (L2.CX X.prog X.w) (2 * n) (L.FA f) fdt ps (spD L (callN G n) f) ∧ Binds X.K fdt ps [] ∧ PySem.W.keepIn X.K (.ref (L.FA f)) = true := C.fns f fd hG
/-- what comes back from a call of a def, in this body -/
theorem run_here {W : WX} {f : Nat} {fdt : FuncData} {ps : List Str} (C : Cn L G n X) (tk : Takes X W) (F : FnOk X.prog X.w X.K X.mg X.base (L2.CX X.prog X.w) (2 * n) (L.FA f) fdt ps (spD L (callN G n) f)) (hb : Binds X.K fdt ps [])
    {pins : List (Addr × Obj)} {s : Shared} {σ : L2.St} {H : Hp} {us : List Value} {vs : List V} {Q : VK} (I : Inv X pins σ H s) (r : Vals vs us) (q : spD L (callN G n) f vs H Q fun cls d H' => W cls d σ H') :
    wpAny (model X.prog X.w) X.A (call (.ref (L.FA f)) us) (EP X pins σ Q) X.xe s := by
  have hl : (us ++ []).length = ps.length := by rw [List.append_nil, ← r.length]; exact F.len _ _ _ _ q
  have hb' := hb s us I.kIn hl
  rw [List.append_nil] at hb'
  refine wpAny_call (codeAny_mono (F.run X.A X.stack s H ⟨us, []⟩ us vs Q _ (C.room.mono (Nat.le_succ _)) I.env0 hb' r q) fun rr s2 hq2 => ?_)
  cases rr with
  | error u => exact tk u s2 (XE.of_call I (fun _ _ _ z => z) hq2)
  | ok fl =>
    cases fl with
    | ret u => exact I.after hq2
    | next => exact False.elim hq2
    | brk => exact False.elim hq2
    | cont => exact False.elim hq2
/-- o.m(e, ..) -/
theorem de_meth {k : Nat} {pl : Sem Bool} (hm : L.MN k = m) (ho : DE L G n X o io) (ha : DA L G n X (e :: es) ies)
    (hst : starEach (e :: es) X.env = (false, eval e X.env) :: starEach es X.env) (hpl : (backTo pos (starEach es X.env)).any (·.1) = false)
    (ht : eval (.Call (.Attribute o m apos) (e :: es) [] pos) X.env = (do
      let ov ← eval o X.env
      standAt apos.atName
      let (f, first) ← holding [ov] (getMethod ov m pl)
      callWith pos f first (backTo pos (starEach (e :: es) X.env)) (backToKw pos (keywordEach [] X.env)))) : DE L G n X (.Call (.Attribute o m apos) (e :: es) [] pos) (.meth k io ies) := fun C W tk => by
  refine ⟨fun pins s σ H Q I ⟨N, δ, A, Qd, Ed, rs, ra, h, hq, hx⟩ => ?_⟩
  refine PySem.W.methodCall_KW (pl := pl) (thn ((ho C W tk).run pins s σ H (fun v H1 => ∃ d A1, RV L.K A1 N H1 d v ∧ RA L A1 N H1 ∧ Ext A H A1 H1 ∧ RS L.K A1 N H1 δ σ ∧ (match d with
      | .ref a => match A1 a with
        | some (.ins C fs) => match G.cl C with
          | some cd => match cd.ms.lookup k with
            | some f => wpEs (callN G n) G ies δ A1 (fun ds A2 => callN G n f (d :: ds) A2 Qd Ed) Ed
            | none => False
          | none => False
        | _ => False
      | _ => False)) I (LE.use rs ra h (fun d A1 v1 H1 rv1 ra1 ex1 rs1 q1 => ⟨d, A1, rv1, ra1, ex1, rs1, q1⟩) hx)) fun u s1 ⟨y, H1, I1, rx, d, A1, rv1, ra1, ex1, rs1, q1⟩ => ?_) ht
  cases d with
  | ref q =>
    simp only at q1
    split at q1
    · next c' fs e1 =>
      split at q1
      · next cd hC =>
        split at q1
        · next f e2 =>
          have K := C.cls c' cd hC
          obtain ⟨hM, hno, fd, hG⟩ := K.met k f e2
          obtain ⟨fdt, ps, F, hb, hk⟩ := C.fns f fd hG
          obtain ⟨dx, vs, h1, h2, h3⟩ := ra1 q _ e1
          have ey := rv_ref.mp rv1
          subst ey
          obtain rfl : u = Value.ref q := rx
          rw [hm] at hM hno
          rw [← C.K] at hM
          refine getmeth_ok I1 h1 (by rw [C.K]; exact K.cls) hM (zip_no hno) ?_
          refine PySem.W.callWith_K (first := [.ref q]) (h₀ := X.base) I1.ok.mod.kin hM.kp (thn ((ha C W tk).run pos pins s1 σ H1 (fun vs H2 => spD L (callN G n) f (.ref q :: vs) H2 Q fun cls d H' => W cls d σ H') I1 (LAs.use rs1 ra1 q1 (fun ds A2 vs H2 rv2 ra2 ex2 rs2 q2 =>
            ⟨N, .ref q :: ds, A2, Qd, Ed, .cons (rv_ref.mpr rfl) rv2, ra2, q2, fun d A' v H' r1 r2 e q => hq d A' v H' r1 r2 ((ex1.trans ex2).trans e) q, XW.ext hx (ex1.trans ex2)⟩) (XW.ext hx ex1))) fun us s2 ⟨vs, H2, I2, r, q2⟩ => ⟨I2.kIn, ?_⟩) hst hpl
          exact run_here C tk F hb I2 (us := .ref q :: us) (vs := .ref q :: vs) (.cons rfl r) q2
        · exact q1.elim
      · exact q1.elim
    · exact q1.elim
  | _ => exact (show False from q1).elim
/-- o.m() -/
theorem de_meth0 {k : Nat} {pl : Sem Bool} (hm : L.MN k = m) (ho : DE L G n X o io)
    (ht : eval (.Call (.Attribute o m apos) [] [] pos) X.env = (do
      let ov ← eval o X.env
      standAt apos.atName
      let (f, first) ← holding [ov] (getMethod ov m pl)
      callWith pos f first (backTo pos (starEach [] X.env)) (backToKw pos (keywordEach [] X.env)))) : DE L G n X (.Call (.Attribute o m apos) [] [] pos) (.meth k io []) := fun C W tk => by
  refine ⟨fun pins s σ H Q I ⟨N, δ, A, Qd, Ed, rs, ra, h, hq, hx⟩ => ?_⟩
  refine PySem.W.methodCall_KW (pl := pl) (thn ((ho C W tk).run pins s σ H (fun v H1 => ∃ d A1, RV L.K A1 N H1 d v ∧ RA L A1 N H1 ∧ Ext A H A1 H1 ∧ RS L.K A1 N H1 δ σ ∧ (match d with
      | .ref a => match A1 a with
        | some (.ins C fs) => match G.cl C with
          | some cd => match cd.ms.lookup k with
            | some f => callN G n f [d] A1 Qd Ed
            | none => False
          | none => False
        | _ => False
      | _ => False)) I (LE.use rs ra h (fun d A1 v1 H1 rv1 ra1 ex1 rs1 q1 => ⟨d, A1, rv1, ra1, ex1, rs1, q1⟩) hx)) fun u s1 ⟨y, H1, I1, rx, d, A1, rv1, ra1, ex1, rs1, q1⟩ => ?_) ht
  cases d with
  | ref q =>
    simp only at q1
    split at q1
    · next c' fs e1 =>
      split at q1
      · next cd hC =>
        split at q1
        · next f e2 =>
          have K := C.cls c' cd hC
          obtain ⟨hM, hno, fd, hG⟩ := K.met k f e2
          obtain ⟨fdt, ps, F, hb, hk⟩ := C.fns f fd hG
          obtain ⟨dx, vs, h1, h2, h3⟩ := ra1 q _ e1
          have ey := rv_ref.mp rv1
          subst ey
          obtain rfl : u = Value.ref q := rx
          rw [hm] at hM hno
          rw [← C.K] at hM
          refine getmeth_ok I1 h1 (by rw [C.K]; exact K.cls) hM (zip_no hno) ?_
          exact PySem.W.callWith_K0 (first := [.ref q]) I1.kIn hM.kp (run_here C tk F hb I1 (us := [.ref q]) (vs := [.ref q]) (.cons rfl .nil)
            ⟨N, [.ref q], A1, Qd, Ed, .cons (rv_ref.mpr rfl) .nil, ra1, q1, fun d A' v H' r1 r2 e q => hq d A' v H' r1 r2 (ex1.trans e) q, XW.ext hx ex1⟩)
        · exact q1.elim
      · exact q1.elim
    · exact q1.elim
  | _ => exact (show False from q1).elim
/-- C(e, ..) -/
theorem de_make {k : Nat} {cd : ClD} (hC : G.cl k = some cd) (hg : Gl X x) (hm : X.mg x = some (.ref (L.CA k))) (ha : DA L G n X (e :: es) ies) (hdb : (x == ("__debug__" : Str)) = false)
    (he : starEach (e :: es) X.env = (false, eval e X.env) :: starEach es X.env) (hpl : (backTo pos (starEach es X.env)).any (·.1) = false) : DE L G n X (.Call (.Name x p) (e :: es) [] pos) (.make k ies) := fun C W tk => by
  have K := C.cls k cd hC
  obtain ⟨M, fd, hG⟩ := K.mak
  obtain ⟨fdt, ps, F, hb, hk⟩ := C.fns cd.init fd hG
  rw [← C.K] at M
  refine ⟨fun pins s σ H Q I ⟨N, δ, A, Qd, Ed, rs, ra, h, hq, hx⟩ => ?_⟩
  refine wpAny_Call_Name_kw (ld_glob I hg hm ?_ hdb)
  refine PySem.W.callWith_K (h₀ := X.base) I.ok.mod.kin M.kp (thn ((ha C W tk).run pos pins s σ H (fun vs H1 => ∃ ds A1, RVs L.K A1 N H1 ds vs ∧ RA L A1 N H1 ∧ Ext A H A1 H1 ∧ (∀ x, A1 x = none → callN G n cd.init (.ref x :: ds) (up A1 x (.ins k [])) (fun r A2 => (match r with | .non => True | _ => False) ∧ Qd (.ref x) A2) Ed)) I (LAs.use rs ra h (fun ds A1 vs H1 rv1 ra1 ex1 rs1 q1 => by
    have q1 : (match G.cl k with
      | some cd => ∀ x, A1 x = none → callN G n cd.init (.ref x :: ds) (up A1 x (.ins k [])) (fun r A2 => (match r with | .non => True | _ => False) ∧ Qd (.ref x) A2) Ed
      | none => False) := q1
    rw [hC] at q1
    exact ⟨ds, A1, rv1, ra1, ex1, q1⟩) hx)) fun us s1 ⟨vs, H1, I1, r, ds, A1, rv1, ra1, ex1, q1⟩ => ⟨I1.kIn, ?_⟩) he hpl
  have n1 : H1 (s1.heap.objs.size + 1) = none := I1.hok.fresh (Nat.le_succ _)
  have n2 : H1 s1.heap.objs.size = none := I1.hok.fresh (Nat.le_refl _)
  have ne : s1.heap.objs.size ≠ s1.heap.objs.size + 1 := Nat.ne_of_lt (Nat.lt_succ_self _)
  have I2 := Inv.made (C := L.CA k) I1
  have n3 : upd H1 s1.heap.objs.size (.own (s1.heap.objs.size + 1)) (s1.heap.objs.size + 1) = none := by rw [upd_ne (Ne.symm ne)]; exact n1
  have raA := ra1.tupNew (u := .own (s1.heap.objs.size + 1)) n2
  have exA := Ext.tupNew (u := .own (s1.heap.objs.size + 1)) ra1 n2
  have raB : RA L (up A1 (s1.heap.objs.size + 1) (.ins k [])) N (upd (upd H1 s1.heap.objs.size (.own (s1.heap.objs.size + 1))) (s1.heap.objs.size + 1) (.ins (L.CA k) s1.heap.objs.size [])) :=
    raA.new n3 ⟨_, [], by rw [upd_same, List.zip_nil_right], .nil, Nat.zero_le _⟩
  have exB : Ext A1 H1 (up A1 (s1.heap.objs.size + 1) (.ins k [])) (upd (upd H1 s1.heap.objs.size (.own (s1.heap.objs.size + 1))) (s1.heap.objs.size + 1) (.ins (L.CA k) s1.heap.objs.size [])) := exA.trans (Ext.new raA n3)
  have rvB := RVs.stay (exB.stay ra1) _ _ rv1
  have q2 : spD L (callN G n) cd.init (.ref (s1.heap.objs.size + 1) :: vs) (upd (upd H1 s1.heap.objs.size (.own (s1.heap.objs.size + 1))) (s1.heap.objs.size + 1) (.ins (L.CA k) s1.heap.objs.size [])) (fun v H2 => v = .non ∧ Q (.ref (s1.heap.objs.size + 1)) H2) (fun cls d H' => W cls d σ H') :=
    ⟨N, .ref (s1.heap.objs.size + 1) :: ds, _, _, Ed, .cons (rv_ref.mpr rfl) rvB, raB, q1 _ (ra1.non n1), fun d A' v H' r1 r2 e q => by
      have q0 := q.1
      cases d <;> first | exact (show False from q0).elim | skip
      exact ⟨rv_non.mp r1, hq _ A' _ H' (rv_ref.mpr rfl) r2 ((ex1.trans exB).trans e) q.2⟩, XW.ext hx (ex1.trans exB)⟩
  have r2 : Vals (V.ref (s1.heap.objs.size + 1) :: vs) (Value.ref (s1.heap.objs.size + 1) :: us) := .cons rfl r
  have hl : (Value.ref (s1.heap.objs.size + 1) :: us ++ []).length = ps.length := by
    have e := r2.length
    rw [F.len _ _ _ _ q2] at e
    rw [List.append_nil]
    exact e.symm
  have hb' := hb _ (Value.ref (s1.heap.objs.size + 1) :: us) I2.kIn hl
  rw [List.append_nil] at hb'
  refine wpAny_call (make_map (f := L.FA cd.init) I1.kIn M.makes M.init (beq_iff_eq.mp M.fn) (codeAny_mono (F.run _ X.stack _ _ ⟨Value.ref (s1.heap.objs.size + 1) :: us, []⟩ (Value.ref (s1.heap.objs.size + 1) :: us) _ _ _ (C.room.make (L.CA k) us [])
    (I2.env0.make (L.CA k) us []) hb' r2 q2) fun r s' hq' => ?_))
  cases r with
  | error e => exact tk e s' (XE.of_call I2 (fun _ _ _ z => z) hq')
  | ok fl =>
    cases fl with
    | ret u =>
      obtain ⟨v, H', I3, rv, ev, q3⟩ := I2.after hq'
      subst ev
      exact ⟨rv, ⟨V.ref (s1.heap.objs.size + 1), H', I3, rfl, q3⟩⟩
    | next => exact False.elim hq'
    | brk => exact False.elim hq'
    | cont => exact False.elim hq'
/-- o.f = e -/
theorem ds_put {C i : Nat} {cd : ClD} (hC : G.cl C = some cd) (hf : (L.FN C)[i]? = some f) (he : DE L G n X e ie) (ho : DE L G n X o io) (hs : swapsWith e (some (.Attribute o f p)) pos.line X.env = pure false) : DS L G n X (.Assign [.Attribute o f p] e pos) (.put C i io ie) := fun C' po W tk =>
  ps_imp (ps_fld (ho C' W tk) (he C' W tk) hs) fun D σ H ⟨N, δ, A, P, rs, ra, h, hn, hr, hc, hx⟩ =>
    LE.use rs ra h (fun d A1 v1 H1 rv1 ra1 ex1 rs1 q1 => LE.use rs1 ra1 q1 (fun d2 A2 v2 H2 rv2 ra2 ex2 rs2 q2 => by
      have K := C'.cls C cd hC
      cases d2 with
      | ref q =>
        simp only at q2
        split at q2
        · next c' fs e =>
          obtain ⟨rfl, hk, q2⟩ := q2
          obtain ⟨dx, vs, h1, h2, h3⟩ := ra2 q _ e
          have hlt : i < (L.FN c').length := (List.getElem?_eq_some_iff.mp hf).1
          rw [C'.K]
          refine ⟨q, _, dx, _, rv_ref.mp rv2, h1, K.cls, K.nof f (List.mem_of_getElem? hf), ?_, ?_⟩
          · have := K.few
            rw [List.length_zip]; omega
          · rw [zip_put K.nod hf (by rw [← h2.length]; exact hk)]
            refine hn δ _ σ _ (rs2.stay ((Ext.put e).stay ra2)) (ra2.put (o' := .ins c' (putF' fs i d)) e ⟨dx, _, upd_same, RVs.stay ((Ext.put e).stay ra2) _ _ (h2.putV (RV.stay (ex2.stay ra1) _ _ rv1) i), putF'_len h3 hlt⟩) ((ex1.trans ex2).trans (Ext.put e)) q2
        · exact q2.elim
      | _ => exact (show False from q2).elim) (exq rs1 ra1 fun x δ' A' σ' H' r0 r e q => hx x δ' A' σ' H' r0 r (ex1.trans e) q)) (exq rs ra hx)
end
end DL

set_option Elab.async false
set_option linter.all false
set_option maxRecDepth 100000
/-! dicts -/
namespace DL
open PySem PySem.Spec PyProof.Rows L2
section
variable {L : Lk} {G : Gm} {n : Nat} {X : Cx} {a b c e o f tg : Expr} {es : List Expr} {ia ib ic ie io ig : IE} {ies : List IE} {pos p p2 apos cpos : Pos} {x m : Str}
/-! ### a dict is locked -/
theorem de_lk (he : DE L G n X e ie) : DE L G n X e (.lk ie) := fun C W tk =>
  pe_imp (pe_lock (he C (fun _ _ _ _ => False) takes0)) fun σ H Q ⟨N, δ, A, Qd, Ed, rs, ra, h, hq, hx⟩ => by
    obtain ⟨q, kvs, e, h⟩ := h
    obtain ⟨ws, h1, h2⟩ := ra q _ e
    refine ⟨q, .dK ws, h1, trivial, fun od => ?_⟩
    have ex1 : Ext A H (up A q (.dkl kvs (.frz od (.dK ws)))) (upd H q (.frz od (.dK ws))) := Ext.put e
    have ra1 : RA L (up A q (.dkl kvs (.frz od (.dK ws)))) N (upd H q (.frz od (.dK ws))) := ra.put e ⟨upd_same, od, ws, rfl, h2.stay (ex1.stay ra)⟩
    refine LE.use (rs.stay (ex1.stay ra)) ra1 (h _) (fun d A2 v2 H2 rv2 ra2 ex2 rs2 q2 => ?_) (fun _ _ _ _ _ z => z)
    obtain ⟨e2, q2⟩ := q2
    obtain ⟨h3, o', ws', h4, h5⟩ := ra2 q _ e2
    have h6 : ws = ws' := by injection h4 with _ h4; injection h4
    subst h6
    have ex3 : Ext A2 H2 (up A2 q (.dk kvs)) (upd H2 q (.dK ws)) := Ext.put e2
    exact ⟨h3, hq d _ v2 _ (RV.stay (ex3.stay ra2) _ _ rv2) (ra2.put e2 ⟨ws, upd_same, h5.stay (ex3.stay ra2)⟩) ((ex1.trans ex2).trans ex3) q2⟩
theorem RKs.at {A : AH} {N : Addr → Prop} {H : Hp} : ∀ {kvs : List (Key × D)} {ws : List (Key × V)} {i : Nat} {k : Key} {v : V}, RKs L.K A N H kvs ws → ws[i]? = some (k, v) → ∃ d, kvs[i]? = some (k, d)
  | [], ws, i, k, v, h, e => by rw [h.nil'] at e; simp at e
  | p :: kvs, ws, 0, k, v, h, e => by
    obtain ⟨q, r, rfl, e1, h1, h2⟩ := h.cons'
    simp at e; subst e
    have e1 : p.1 = k := e1
    exact ⟨p.2, by rw [List.getElem?_cons_zero, ← e1]⟩
  | p :: kvs, ws, i + 1, k, v, h, e => by
    obtain ⟨q, r, rfl, e1, h1, h2⟩ := h.cons'
    rw [List.getElem?_cons_succ] at e ⊢
    exact RKs.at h2 e
theorem dwk_keys {A0 : AH} {N0 : Addr → Prop} {H0 : Hp} {q : Addr} {od : Obj} {kvs : List (Key × D)} {ws : List (Key × V)} : DWk L N0 (Itk q od ws) (kvs.map fun kv => ofKey kv.1) (fun A => A q = some (.dkl kvs (.frz od (.dK ws)))) A0 H0 := by
  have rd : ∀ {A N H}, RA L A N H → A q = some (.dkl kvs (.frz od (.dK ws))) → H q = some (.frz od (.dK ws)) ∧ RKs L.K A N H kvs ws := fun ra g => by
    obtain ⟨h3, o', ws', h4, h5⟩ := ra q _ g
    have h6 : ws = ws' := by injection h4 with _ h4; injection h4
    subst h6
    exact ⟨h3, h5⟩
  refine ⟨fun i A N H hi ra x g => ?_, fun A N H ra x g => ?_, fun i y A N H H' hi ra x g hy => ?_⟩
  · obtain ⟨h1, h2⟩ := rd ra g
    rw [List.length_map] at hi
    exact ⟨h1, by rw [← h2.len]; exact hi⟩
  · obtain ⟨h1, h2⟩ := rd ra g
    exact ⟨h1, by rw [← h2.len, List.length_map]; exact Nat.le_refl _⟩
  · obtain ⟨h1, h2⟩ := rd ra g
    obtain ⟨rfl, k, v, hk, rfl⟩ := hy
    obtain ⟨d, hd⟩ := h2.at hk
    exact ⟨ofKey k, by rw [List.getElem?_map, hd]; rfl, ofKey_rv k, ra, Ext.refl _ _⟩
theorem di_keys (ha : DE L G n X a ia) : DI L G n X tg a .keys [ia] := fun C W tk =>
  pi_imp (pi_keys (ha C W tk)) fun σ H R ⟨N, δ, A, Rd, Ed, rs, ra, h, hq, hx⟩ =>
    LE.use rs ra h (fun d A1 v1 H1 rv1 ra1 ex1 rs1 q1 => by
      cases d with
      | ref q =>
        have q1 : (match A1 q with | some (.dkl kvs u) => Rd (kvs.map fun kv => ofKey kv.1) (fun A' => A' q = some (.dkl kvs u)) A1 | _ => False) := q1
        split at q1
        · next kvs u e =>
          obtain ⟨h3, o', ws', rfl, h5⟩ := ra1 q _ e
          exact ⟨q, o', rv_ref.mp rv1, .inl ⟨ws', h3, hq _ _ A1 H1 _ dwk_keys ra1 ex1 q1⟩⟩
        · exact q1.elim
      | _ => exact (show False from q1).elim) hx
/-! ### displays -/
theorem de_dnew : DE L G n X (.Dict [] [] pos) (.dic []) := fun C W tk =>
  pe_imp pe_dnewK fun σ H Q ⟨N, δ, A, Qd, Ed, rs, ra, h, hq, hx⟩ p np => by
    have h : 0 ≤ 15 ∧ newD A [] Qd := h
    exact hq _ _ _ _ (rv_ref.mpr rfl) (ra.new np (o := .dk []) ⟨[], upd_same, .nil⟩) (Ext.new ra np) (h.2 p (ra.non np))
/-- a new dict -/
theorem Kt.dic {A : AH} {N : Addr → Prop} {H : Hp} {Qd : QE} {Q : VK} {kvs : List (Key × D)} {ws : List (Key × V)} (k : Kt L A N H Qd Q) (ra : RA L A N H) (r : RKs L.K A N H kvs ws) (q : newD A kvs Qd) : ∀ p, H p = none → Q (.ref p) (upd H p (.dK ws)) := fun p np =>
  k _ _ _ _ (rv_ref.mpr rfl) (ra.new np (o := .dk kvs) ⟨ws, upd_same, r.stay ((Ext.new ra np).stay ra)⟩) (Ext.new ra np) (q p (ra.non np))
/-! ### methods -/
theorem isD_of {A : AH} {N : Addr → Prop} {H : Hp} {d : D} {v : V} (ra : RA L A N H) (r : RV L.K A N H d v) (h : isT .dict A d) : ∃ q, v = .ref q ∧ IsD H q := by
  cases d with
  | ref q =>
    simp only [isT] at h
    split at h
    · exact h.elim
    · next e => obtain ⟨ws, h1, _⟩ := ra q _ e; exact ⟨q, rv_ref.mp r, .inl ⟨ws, .inl h1⟩⟩
    · next e => obtain ⟨h1, o, ws, rfl, _⟩ := ra q _ e; exact ⟨q, rv_ref.mp r, .inl ⟨ws, .inr ⟨o, h1⟩⟩⟩
    · exact h.elim
  | rod ks xs => obtain ⟨q, ws, e, h1, _⟩ := rv_rod.mp r; exact ⟨q, e, .inl ⟨ws, h1.1⟩⟩
  | _ => exact (show False from h).elim
theorem RKs.getD {A : AH} {N : Addr → Prop} {H : Hp} {kvs : List (Key × D)} {ws : List (Key × V)} {d : D} {v : V} (h : RKs L.K A N H kvs ws) (k : Key) (r : RV L.K A N H d v) : RV L.K A N H ((valD kvs k).getD d) ((valV ws k).getD v) := by
  have := h.val k
  revert this
  cases valD kvs k <;> cases valV ws k <;> intro h <;> first | exact r | exact h | exact (show False from h).elim
theorem de_get1 (ho : DE L G n X o io) (ha : DE L G n X a ia) (mm : M1 X o "get" apos a cpos) : DE L G n X (.Call (.Attribute o "get" apos) [a] [] cpos) (.bm .get io [ia]) := fun C W tk =>
  pe_imp (pe_dget1 (hu_of C.room) (ho C W tk) (ha C W tk) mm) fun σ H Q ⟨N, δ, A, Qd, Ed, rs, ra, h, hq, hx⟩ =>
    LE.use rs ra h (fun x A1 v1 H1 rv1 ra1 ex1 rs1 q1 => by
      obtain ⟨q, rfl, d⟩ := isD_of ra1 rv1 q1.1
      refine ⟨q, rfl, d, LE.use rs1 ra1 q1.2 (fun y A2 v2 H2 rv2 ra2 ex2 rs2 q2 => ?_) (XW.ext hx ex1)⟩
      have q2 : (match dicD A2 x, keyD y with | some kvs, some k => Qd ((valD kvs k).getD .non) A2 | _, _ => False) := q2
      split at q2
      · next kvs ky e1 e2 =>
        obtain ⟨q', ws, e, h1, h2⟩ := dicD_rv e1 ra2 (RV.stay (ex2.stay ra1) _ _ rv1)
        cases e
        refine ⟨_, .inl ⟨ws, ky, h1, keyD_rv e2 rv2, rfl⟩, hq _ A2 _ H2 (h2.getD ky (rv_non.mpr rfl)) ra2 (ex1.trans ex2) q2⟩
      · exact q2.elim) hx
theorem de_get2 (ho : DE L G n X o io) (ha : DE L G n X a ia) (hb : DE L G n X b ib) (mm : M2 X o "get" apos a b cpos) : DE L G n X (.Call (.Attribute o "get" apos) [a, b] [] cpos) (.bm .get io [ia, ib]) := fun C W tk =>
  pe_imp (pe_dget2 (hu_of C.room) (ho C W tk) (ha C W tk) (hb C W tk) mm) fun σ H Q ⟨N, δ, A, Qd, Ed, rs, ra, h, hq, hx⟩ =>
    LE.use rs ra h (fun x A1 v1 H1 rv1 ra1 ex1 rs1 q1 => by
      obtain ⟨q, rfl, d⟩ := isD_of ra1 rv1 q1.1
      refine ⟨q, rfl, d, LE.use rs1 ra1 q1.2 (fun y A2 v2 H2 rv2 ra2 ex2 rs2 q2 => LE.use rs2 ra2 q2 (fun z A3 v3 H3 rv3 ra3 ex3 rs3 q3 => ?_) (XW.ext hx (ex1.trans ex2))) (XW.ext hx ex1)⟩
      have q3 : (match dicD A3 x, keyD y with | some kvs, some k => Qd ((valD kvs k).getD z) A3 | _, _ => False) := q3
      split at q3
      · next kvs ky e1 e2 =>
        obtain ⟨q', ws, e, h1, h2⟩ := dicD_rv e1 ra3 (RV.stay (ex3.stay ra2) _ _ (RV.stay (ex2.stay ra1) _ _ rv1))
        cases e
        refine ⟨_, .inl ⟨ws, ky, h1, keyD_rv e2 (RV.stay (ex3.stay ra2) _ _ rv2), rfl⟩, hq _ A3 _ H3 (h2.getD ky rv3) ra3 ((ex1.trans ex2).trans ex3) q3⟩
      · exact q3.elim) hx
/-- a dict written -/
theorem Kt.dput {A : AH} {N : Addr → Prop} {H : Hp} {Qd : QE} {Q : VK} {q : Addr} {o : AO} {kvs : List (Key × D)} {ws : List (Key × V)} {d : D} {v : V} (k : Kt L A N H Qd Q) (ra : RA L A N H) (e : A q = some o) (r : RKs L.K A N H kvs ws) (rd : RV L.K A N H d v) (h : Qd d (up A q (.dk kvs))) : Q v (upd H q (.dK ws)) :=
  k _ _ _ _ (RV.stay ((Ext.put e).stay ra) _ _ rd) (ra.dput e r) (Ext.put e) h
theorem valV_some {A : AH} {N : Addr → Prop} {H : Hp} {kvs : List (Key × D)} {ws : List (Key × V)} {k : Key} {v : V} (h : RKs L.K A N H kvs ws) (e : valV ws k = some v) : ∃ d, valD kvs k = some d ∧ RV L.K A N H d v := by
  have := h.val k
  rw [e] at this
  cases q : valD kvs k with
  | none => rw [q] at this; exact this.elim
  | some d => rw [q] at this; exact ⟨d, rfl, this⟩
theorem valV_none {A : AH} {N : Addr → Prop} {H : Hp} {kvs : List (Key × D)} {ws : List (Key × V)} {k : Key} (h : RKs L.K A N H kvs ws) (e : valV ws k = none) : valD kvs k = none := by
  have := h.isSome k
  rw [e] at this
  cases q : valD kvs k with
  | none => rfl
  | some d => rw [q] at this; cases this
theorem de_dpop1 (ho : DE L G n X o io) (ha : DE L G n X a ia) (mm : M1 X o "pop" apos a cpos) : DE L G n X (.Call (.Attribute o "pop" apos) [a] [] cpos) (.bm .dpop io [ia]) := fun C W tk =>
  pe_imp (pe_dpop1 (ho C W tk) (ha C W tk) mm) fun σ H Q ⟨N, δ, A, Qd, Ed, rs, ra, h, hq, hx⟩ =>
    LE.use rs ra h (fun x A1 v1 H1 rv1 ra1 ex1 rs1 q1 => by
      obtain ⟨q, rfl, d⟩ := isD_of ra1 rv1 q1.1
      refine ⟨q, rfl, d, LE.use rs1 ra1 q1.2 (fun y A2 v2 H2 rv2 ra2 ex2 rs2 q2 => ?_) (XW.ext hx ex1)⟩
      cases x with
      | ref q' =>
        cases rv_ref.mp rv1
        have q2 : (match A2 q, keyD y with
          | some (.dk kvs), some k => (match valD kvs k with | some v => Qd v (up A2 q (.dk (dropD kvs k))) | none => False)
          | _, _ => False) := q2
        split at q2
        · next kvs ky e1 e2 =>
          split at q2
          · next v e3 =>
            obtain ⟨ws, h1, h2⟩ := ra2 q _ e1
            obtain ⟨w, h3, h4⟩ := h2.get e3
            exact ⟨ws, ky, w, h1, keyD_rv e2 rv2, h3, Kt.dput (fun d A' v' H' r1 r2 e q => hq d A' v' H' r1 r2 ((ex1.trans ex2).trans e) q) ra2 e1 (h2.drop ky) h4 q2⟩
          · exact q2.elim
        · exact q2.elim
      | _ => exact (show False from q2).elim) hx
theorem de_dpop2 (ho : DE L G n X o io) (ha : DE L G n X a ia) (hb : DE L G n X b ib) (mm : M2 X o "pop" apos a b cpos) : DE L G n X (.Call (.Attribute o "pop" apos) [a, b] [] cpos) (.bm .dpop io [ia, ib]) := fun C W tk =>
  pe_imp (pe_dpop2 (ho C W tk) (ha C W tk) (hb C W tk) mm) fun σ H Q ⟨N, δ, A, Qd, Ed, rs, ra, h, hq, hx⟩ =>
    LE.use rs ra h (fun x A1 v1 H1 rv1 ra1 ex1 rs1 q1 => by
      obtain ⟨q, rfl, d⟩ := isD_of ra1 rv1 q1.1
      refine ⟨q, rfl, d, LE.use rs1 ra1 q1.2 (fun y A2 v2 H2 rv2 ra2 ex2 rs2 q2 => LE.use rs2 ra2 q2 (fun z A3 v3 H3 rv3 ra3 ex3 rs3 q3 => ?_) (XW.ext hx (ex1.trans ex2))) (XW.ext hx ex1)⟩
      cases x with
      | ref q' =>
        cases rv_ref.mp rv1
        have q3 : (match A3 q, keyD y with
          | some (.dk kvs), some k => (match valD kvs k with | some v => Qd v (up A3 q (.dk (dropD kvs k))) | none => Qd z A3)
          | _, _ => False) := q3
        split at q3
        · next kvs ky e1 e2 =>
          obtain ⟨ws, h1, h2⟩ := ra3 q _ e1
          refine ⟨ws, ky, h1, keyD_rv e2 (RV.stay (ex3.stay ra2) _ _ rv2), fun w hw => ?_, fun hw => ?_⟩
          · obtain ⟨d, h3, h4⟩ := valV_some h2 hw
            rw [h3] at q3
            exact Kt.dput (fun d A' v' H' r1 r2 e q => hq d A' v' H' r1 r2 (((ex1.trans ex2).trans ex3).trans e) q) ra3 e1 (h2.drop ky) h4 q3
          · rw [valV_none h2 hw] at q3
            exact hq z A3 _ H3 rv3 ra3 ((ex1.trans ex2).trans ex3) q3
        · exact q3.elim
      | _ => exact (show False from q3).elim) hx
theorem de_setd (ho : DE L G n X o io) (ha : DE L G n X a ia) (hb : DE L G n X b ib) (mm : M2 X o "setdefault" apos a b cpos) : DE L G n X (.Call (.Attribute o "setdefault" apos) [a, b] [] cpos) (.bm .setdefault io [ia, ib]) := fun C W tk =>
  pe_imp (pe_dsetd (ho C W tk) (ha C W tk) (hb C W tk) mm) fun σ H Q ⟨N, δ, A, Qd, Ed, rs, ra, h, hq, hx⟩ =>
    LE.use rs ra h (fun x A1 v1 H1 rv1 ra1 ex1 rs1 q1 => by
      obtain ⟨q, rfl, d⟩ := isD_of ra1 rv1 q1.1
      refine ⟨q, rfl, d, LE.use rs1 ra1 q1.2 (fun y A2 v2 H2 rv2 ra2 ex2 rs2 q2 => LE.use rs2 ra2 q2 (fun z A3 v3 H3 rv3 ra3 ex3 rs3 q3 => ?_) (XW.ext hx (ex1.trans ex2))) (XW.ext hx ex1)⟩
      cases x with
      | ref q' =>
        cases rv_ref.mp rv1
        have q3 : (match A3 q, keyD y with
          | some (.dk kvs), some k => kvs.length < sizeLine ∧ (match valD kvs k with | some v => Qd v A3 | none => Qd z (up A3 q (.dk (putD kvs k z))))
          | _, _ => False) := q3
        split at q3
        · next kvs ky e1 e2 =>
          obtain ⟨ws, h1, h2⟩ := ra3 q _ e1
          obtain ⟨q4, q3⟩ := q3
          refine ⟨ws, ky, h1, keyD_rv e2 (RV.stay (ex3.stay ra2) _ _ rv2), by rw [← h2.len]; exact q4, fun w hw => ?_, fun hw => ?_⟩
          · obtain ⟨d, h3, h4⟩ := valV_some h2 hw
            rw [h3] at q3
            exact hq d A3 _ H3 h4 ra3 ((ex1.trans ex2).trans ex3) q3
          · rw [valV_none h2 hw] at q3
            exact Kt.dput (fun d A' v' H' r1 r2 e q => hq d A' v' H' r1 r2 (((ex1.trans ex2).trans ex3).trans e) q) ra3 e1 (h2.put ky rv3) rv3 q3
        · exact q3.elim
      | _ => exact (show False from q3).elim) hx
end
/-! ### built-in functions of dicts -/
section
variable {X : Cx}
def rLenD : List V → Hp → VK → Prop := fun xs H Q => ∃ a ws, xs = [V.ref a] ∧ Rd H a (.dK ws) ∧ Q (.int ws.length) H
theorem cr_lend : CallR X (.builtin "len") rLenD := by
  intro pins s σ H xs us Q I r h
  obtain ⟨a, ws, rfl, h1, q⟩ := h
  rw [Vals.ref1 r]
  exact d_len I h1 fun t s' I' => ⟨.int _, H, I', ⟨t, rfl⟩, q⟩
theorem db_lend {L : Lk} : DBi L rLenD (dBi .lend) := by
  intro ds vs A N H Q Qd rv ra h k
  match ds, rv, h with
  | [d], rv, h =>
    obtain ⟨v, rfl, r⟩ := rvs1 rv
    have h : (match dicD A d with | some kvs => Qd (.int kvs.length) A | none => False) := h
    split at h
    · next kvs e =>
      obtain ⟨b, ws, rfl, h1, h2⟩ := dicD_rv e ra r
      exact ⟨b, ws, rfl, h1, by rw [← h2.len]; exact k.int ra h⟩
    · exact h.elim
  | [], _, h => exact (show False from h).elim
  | d :: _ :: _, _, h => exact (show False from h).elim
def rDictD : List V → Hp → VK → Prop := fun xs H Q => ∃ (a : Addr) (kvs : List (Key × V)), xs = [.ref a] ∧ Rd H a (.dK kvs) ∧ ∀ p, H p = none → Q (.ref p) (upd H p (.dK kvs))
theorem db_dict {L : Lk} : DBi L rDictD (dBi .dict) := by
  intro ds vs A N H Q Qd rv ra h k
  match ds, rv, h with
  | [d], rv, h =>
    obtain ⟨v, rfl, r⟩ := rvs1 rv
    have h : (match dicD A d with | some kvs => newD A kvs Qd | none => False) := h
    split at h
    · next kvs e =>
      obtain ⟨b, ws, rfl, h1, h2⟩ := dicD_rv e ra r
      exact ⟨b, ws, rfl, h1, k.dic ra h2 h⟩
    · exact h.elim
  | [], _, h => exact (show False from h).elim
  | d :: _ :: _, _, h => exact (show False from h).elim
def rListD' : List V → Hp → VK → Prop := fun xs H Q => ∃ (a : Addr) (kvs : List (Key × V)), xs = [.ref a] ∧ Rd H a (.dK kvs) ∧ ∀ p, H p = none → Q (.ref p) (upd H p (.lst (kvs.map fun kv => kV kv.1)))
theorem rvs_keys {L : Lk} {A : AH} {N : Addr → Prop} {H : Hp} : ∀ {kvs : List (Key × D)} {ws : List (Key × V)}, RKs L.K A N H kvs ws → RVs L.K A N H (kvs.map fun kv => ofKey kv.1) (ws.map fun kv => kV kv.1)
  | [], ws, h => by rw [h.nil']; exact .nil
  | p :: kvs, ws, h => by
    obtain ⟨q, r, rfl, e, h1, h2⟩ := h.cons'
    rw [List.map_cons, List.map_cons]
    exact .cons (by rw [e]; exact ofKey_rv _) (rvs_keys h2)
theorem db_listd {L : Lk} : DBi L rListD' (dBi .listd) := by
  intro ds vs A N H Q Qd rv ra h k
  match ds, rv, h with
  | [d], rv, h =>
    obtain ⟨v, rfl, r⟩ := rvs1 rv
    have h : (match dicD A d with | some kvs => newL A (kvs.map fun kv => ofKey kv.1) Qd | none => False) := h
    split at h
    · next kvs e =>
      obtain ⟨b, ws, rfl, h1, h2⟩ := dicD_rv e ra r
      exact ⟨b, ws, rfl, h1, k.lst ra (rvs_keys h2) h⟩
    · exact h.elim
  | [], _, h => exact (show False from h).elim
  | d :: _ :: _, _, h => exact (show False from h).elim
def rDictP (K : PySem.W.Frag) : List V → Hp → VK → Prop := fun xs H Q => ∃ (a : Addr) (ps : List Addr) (kvs : List (Key × V)), xs = [.ref a] ∧ SqL K H a (ps.map V.ref) ∧ Paired (fun p kv => SqT K H p [kV kv.1, kv.2]) ps kvs ∧
    ∀ p, H p = none → Q (.ref p) (upd H p (.dK (mergeK [] kvs)))
theorem alls_kv {L : Lk} {A : AH} {N : Addr → Prop} {H : Hp} : ∀ {xs : List D} {kvs : List (Key × D)} {vs : List V}, alls kv1 xs = some kvs → RVs L.K A N H xs vs → ∃ (ps : List Addr) (ws : List (Key × V)), vs = ps.map V.ref ∧ Paired (fun p kv => SqT L.K H p [kV kv.1, kv.2]) ps ws ∧ RKs L.K A N H kvs ws
  | [], kvs, vs, h, r => by cases h; rw [r.nil']; exact ⟨[], [], rfl, .nil, .nil⟩
  | x :: xs, kvs, vs, h, r => by
    obtain ⟨v, vr, rfl, r1, r2⟩ := r.cons'
    unfold alls at h
    split at h
    · next y ys e1 e2 =>
      cases h
      obtain ⟨ps, ws, rfl, h3, h4⟩ := alls_kv e2 r2
      match x, e1 with
      | .tup [k, d], e1 =>
        simp only [kv1] at e1
        obtain ⟨ky, e3, e4⟩ := Option.map_eq_some_iff.mp e1
        subst e4
        obtain ⟨a, us, rfl, h5, h6⟩ := rv_tup.mp r1
        obtain ⟨u1, u2, rfl, h7, h8⟩ := rvs2 h6
        rw [keyD_rv e3 h7] at h5
        exact ⟨a :: ps, (ky, u2) :: ws, rfl, .cons h5 h3, .cons rfl h8 h4⟩
    · cases h
theorem db_dictp {L : Lk} : DBi L (rDictP L.K) (dBi .dictp) := by
  intro ds vs A N H Q Qd rv ra h k
  match ds, rv, h with
  | [d], rv, h =>
    obtain ⟨v, rfl, r⟩ := rvs1 rv
    have h : (match lstD A d with | some xs => (match alls kv1 xs with | some kvs => newD A (mergeD [] kvs) Qd | none => False) | none => False) := h
    split at h
    · next xs e =>
      split at h
      · next kvs e2 =>
        obtain ⟨b, ws, rfl, h1, h2⟩ := lstD_rv e ra r
        obtain ⟨ps, us, rfl, h3, h4⟩ := alls_kv e2 h2
        exact ⟨b, ps, us, rfl, h1, h3, k.dic ra (h4.merge .nil) h⟩
      · exact h.elim
    · exact h.elim
  | [], _, h => exact (show False from h).elim
  | d :: _ :: _, _, h => exact (show False from h).elim
/-- sorted(d): its keys, ints -/
def rSortD : List V → Hp → VK → Prop := fun xs H Q => ∃ (a : Addr) (kvs : List (Key × V)) (ks : List Int), xs = [.ref a] ∧ Rd H a (.dK kvs) ∧ kvs.map (·.1) = ks.map Sum.inl ∧ ∀ p, H p = none → Q (.ref p) (upd H p (.lst ((sortI ks).map V.int)))
theorem sorted_ints {prog : Program} {w : World} {A : Around} {E : Value → Shared → Prop} {s : Shared} {v : Value} {ks : List Int} {Q : Value → Shared → Prop} (hz : ks.length ≤ sizeLine)
    (hcol : ∀ R : List Value → Shared → Prop, (∀ h' tk acc, (∀ b o, s.heap.get? b = some o → h'.get? b = some o) → IntsAre acc ks → R acc { s with heap := h', toks := tk }) → wpAny (model prog w) A.in1 (collect v) R E s)
    (q : ∀ (h1 h2 : Heap) (tk : Nat) (out : List Value) (ep : Nat) (p : Addr), (∀ b o, s.heap.get? b = some o → h1.get? b = some o) → (∀ b o, h1.get? b = some o → h2.get? b = some o) → IntsAre out (sortI ks) → h1.objs.size ≤ p → h2.get? p = some (seqObj "list" out.toArray ep) → Q (.ref p) { s with heap := h2, toks := tk }) : wpAny (model prog w) A (call (.builtin "sorted") [v]) Q E s := by
  refine Calls.call_function_entry kind_sorted plain_sorted entry_sorted (args_sorted1 _) ?_
  unfold Builtin.«sorted»
  refine wpAny_bind (m := checkCount "sorted" 1 1 _) (wpAny_pure (wpAny_bind (hcol _ fun h' tk acc hk hS => ?_)))
  have hal : acc.length = ks.length := by
    clear hcol q
    induction hS with
    | nil => rfl
    | cons a b c ih => rw [List.length_cons, List.length_cons, ih (by rw [List.length_cons] at hz; omega)]
  refine wpAny_bind (wpAny_newList ?_ (by rw [hal]; exact hz))
  have hoL : (h'.push (seqObj "list" acc.toArray 0)).get? h'.objs.size = some (seqObj "list" acc.toArray 0) := Heap.get?_push_size _ rfl
  show wpAny _ _ _ _ _ { s with heap := h'.push (seqObj "list" acc.toArray 0), toks := tk }
  refine wpAny_bind (wpAny_holding (wpAny_call_entry slot_list_sort ⟨_, hoL, rfl⟩ entry_list_sort
    (SrtO.list_sort_ord (s := { s with heap := h'.push (seqObj "list" acc.toArray 0), toks := tk }) SrtO.swo_int hoL (by rw [hal]; exact hz) (fun h2 => SrtO.ints_sortable hS h2) fun out g1 g2 => ⟨_, rfl, ?_⟩) (args_list_sort _)))
  obtain ⟨k1, k2, k3⟩ := SrtO.ints_out hS g1 g2
  obtain ⟨e', he'⟩ := PyProof.Rows.sortedHeap_at (vs := acc) (out := out.toArray) hoL
  rw [sortI_eq k2 k3] at k1
  refine wpAny_pure ⟨_, rfl, q h' _ tk out e' h'.objs.size hk (fun b u e => ?_) k1 (Nat.le_refl _) he'⟩
  have hb : b < h'.objs.size := Heap.lt_size e
  rw [PyProof.Rows.sortedHeap_old (Nat.ne_of_lt hb) (by rw [size_push']; exact Nat.lt_succ_of_lt hb)]
  exact Heap.get?_push_of_some _ e
theorem cr_sortd (hcalm : X.calm = true) : CallR X (.builtin "sorted") rSortD := by
  intro pins s σ H xs us Q I r q
  obtain ⟨a, kvs, ks, ex, hd, hks, q⟩ := q
  subst ex
  obtain ⟨u, eu, rx⟩ := vals1 r
  subst eu
  cases rx
  obtain ⟨z, lo, vs, rel, dd⟩ := dk_rd I.hok hd
  obtain ⟨ep, hat⟩ := dd.dictAt
  have hkeys : vs.map (·.1) = ks.map Sum.inl := rel.keys.symm.trans hks
  have hl : vs.length = ks.length := by
    have e := congrArg List.length hkeys
    rw [List.length_map, List.length_map] at e
    exact e
  have h16 : vs.length ≤ sizeLine := by rw [← rel.length]; exact z
  refine sorted_ints (ks := ks) (by rw [← hl]; exact h16) (fun R hR => PySem.W.kdu_collect (A := X.A.in1) (PySem.W.kdl_dict (knd := mixKind X.prog X.w) (kvs := vs) (ep := ep) lo) (I.ok.hd hcalm) hat h16 fun h' tk acc hk hacc => hR h' tk acc.toList hk ?_) fun h1 h2 tk out e p k1 k2 hi hp he => ?_
  · have hal : acc.toList.length = ks.length := by rw [Array.length_toList, hacc.1, hl]
    exact ints_each hal fun j v e => by
      obtain ⟨k, x, e1, e2⟩ := hacc.2 j v (by rw [← Array.getElem?_toList]; exact e)
      have e3 : (vs.map (·.1))[j]? = some k := by rw [List.getElem?_map, e1]; rfl
      rw [hkeys, List.getElem?_map] at e3
      cases e4 : ks[j]? with
      | none => rw [e4] at e3; cases e3
      | some y =>
        rw [e4] at e3
        have e5 : Sum.inl y = k := Option.some.inj e3
        subst e5
        rcases keyIs_shape (show keyIs (Sum.inl y) v = true from e2) with ⟨i, t, ek, ev⟩ | ⟨z, t, ek, ev⟩
        · cases ek
          exact ⟨y, t, rfl, ev⟩
        · cases ek
  · have I1 : Inv X pins σ H { s with heap := h1, toks := tk } := I.kept k1
    have hlen : ((sortI ks).map V.int).length ≤ sizeLine := by
      rw [List.length_map, (sortI_perm ks).length_eq, ← hl]; exact h16
    exact ⟨.ref p, upd H p (.lst ((sortI ks).map V.int)), I1.laid (t' := tk) k2 hp (show ObjOk X.prog X.w _ _ _ (.lst ((sortI ks).map V.int)) from ⟨hlen, out, e, vals_of_ints hi, he⟩), rfl, q _ (I1.hok.fresh hp)⟩
theorem keys_int {kvs : List (Key × D)} : ∀ {ns : List Int}, alls int1 (kvs.map fun kv => ofKey kv.1) = some ns → kvs.map (·.1) = ns.map Sum.inl := by
  induction kvs with
  | nil => intro ns h; cases h; rfl
  | cons p r ih =>
    intro ns h
    rw [List.map_cons] at h
    unfold alls at h
    split at h
    · next y ys e1 e2 =>
      cases h
      rw [List.map_cons, List.map_cons, ih e2]
      cases q : p.1 with
      | inl i => rw [q] at e1; cases e1; rfl
      | inr x => rw [q] at e1; cases e1
    · cases h
theorem db_sortd {L : Lk} : DBi L rSortD (dBi .sortd) := by
  intro ds vs A N H Q Qd rv ra h k
  match ds, rv, h with
  | [d], rv, h =>
    obtain ⟨v, rfl, r⟩ := rvs1 rv
    have h : (match dicD A d with | some kvs => (match alls int1 (kvs.map fun kv => ofKey kv.1) with | some ns => newL A ((sortI ns).map .int) Qd | none => False) | none => False) := h
    split at h
    · next kvs e =>
      split at h
      · next ns e2 =>
        obtain ⟨b, ws, rfl, h1, h2⟩ := dicD_rv e ra r
        exact ⟨b, ws, ns, rfl, h1, by rw [← h2.1]; exact keys_int e2, k.lst ra (RVs.of_ints _) h⟩
      · exact h.elim
    · exact h.elim
  | [], _, h => exact (show False from h).elim
  | d :: _ :: _, _, h => exact (show False from h).elim
end
end DL

set_option Elab.async false
set_option linter.all false
set_option maxRecDepth 100000
/-! tuples of which is known that they have no dict of their own; dict(tuple) -/
namespace DL
open PySem PySem.Spec PyProof.Rows L2
section
variable {L : Lk} {G : Gm} {n : Nat} {X : Cx} {a b c e o f tg : Expr} {es : List Expr} {ia ib ic ie io ig : IE} {ies : List IE} {pos p p2 apos cpos : Pos} {x m : Str}
def PlT (H : Hp) (q : Addr) (vs : List V) : Prop := ∃ o, H q = some (.frz o (.tup vs)) ∧ o.dict = none
theorem Kt.ptp {A : AH} {N : Addr → Prop} {H : Hp} {Qd : QE} {Q : VK} {ds : List D} {vs : List V} {ob : Obj} (k : Kt L A N H Qd Q) (ra : RA L A N H) (r : RVs L.K A N H ds vs) (ho : ob.dict = none) (q : Qd (.ptp ds) A) : ∀ p, H p = none → Q (.ref p) (upd H p (.frz ob (.tup vs))) := fun p np =>
  k _ A _ _ (rv_ptp.mpr ⟨p, ob, vs, rfl, upd_same, ho, RVs.stay ((Ext.tupNew ra np).stay ra) _ _ r⟩) (ra.tupNew np) (Ext.tupNew ra np) q
theorem de_wk (he : DE L G n X e ie) : DE L G n X e (.wk ie) := fun C W tk =>
  pe_imp (he C W tk) fun σ H Q ⟨N, δ, A, Qd, Ed, rs, ra, h, hq, hx⟩ =>
    ⟨N, δ, A, _, Ed, rs, ra, h, fun d A' v H' r1 r2 e q => by
      cases d with
      | ptp xs =>
        obtain ⟨q', o, vs, rfl, h1, h2, h3⟩ := rv_ptp.mp r1
        exact hq (.tup xs) A' _ H' (rv_tup.mpr ⟨q', vs, rfl, .inl (.inr ⟨o, h1⟩), h3⟩) r2 e q
      | _ => exact hq _ A' v H' r1 r2 e q, hx⟩
def tPtd (t : TA) : TE := fun σ H Q => t σ H fun xs H1 => xs.length ≤ sizeLine ∧ ∀ p ob, H1 p = none → ob.dict = none → Q (.ref p) (upd H1 p (.frz ob (.tup xs)))
theorem pe_ptd {k : Nat} {t : TA} (h : PA X es t) : PE X (.Tuple es k pos) (tPtd t) := by
  refine ⟨fun pins s σ H Q I hq => ?_⟩
  refine wpAny_Tuple_spliced (thn (h.run pos pins s σ H _ I hq) fun us s1 ⟨xs, H1, I1, r, z, q⟩ => ⟨by rw [← r.length]; exact z, ?_⟩)
  have hf : H1 s1.heap.objs.size = none := I1.hok.fresh (Nat.le_refl _)
  have hp := Heap.get?_push_size s1.heap (o := { cls := .type "tuple", data := .seq us.toArray }) rfl
  exact ⟨.ref s1.heap.objs.size, upd H1 s1.heap.objs.size (.frz { cls := .type "tuple", data := .seq us.toArray } (.tup xs)), I1.laid (t' := s1.toks) (fun b u e => Heap.get?_push_of_some _ e) (Nat.le_refl _) ⟨hp, z, us, r, ⟨_, hp, rfl, _, rfl⟩⟩, rfl, q _ _ hf rfl⟩
theorem de_ptd {k : Nat} (h : DA L G n X es ies) : DE L G n X (.Tuple es k pos) (.ptd ies) := fun C W tk =>
  pe_imp (pe_ptd (h C W tk)) fun σ H Q ⟨N, δ, A, Qd, Ed, rs, ra, h, hq, hx⟩ =>
    LAs.use rs ra h (fun ds A1 vs H1 rv1 ra1 ex1 rs1 q1 => ⟨by rw [← rv1.length]; exact q1.1, fun p ob np ho => Kt.ptp (fun d A' v' H' r1 r2 e q => hq d A' v' H' r1 r2 (ex1.trans e) q) ra1 rv1 ho q1.2 p np⟩) hx
def rPtl (K : PySem.W.Frag) : List V → Hp → VK → Prop := fun xs H Q => ∃ p ys, xs = [.ref p] ∧ SqL K H p ys ∧ ∀ l ob, H l = none → ob.dict = none → Q (.ref l) (upd H l (.frz ob (.tup ys)))
theorem cr_ptl : CallR X (.type "tuple") (rPtl X.K) := by
  intro pins s σ H xs us Q I r h
  obtain ⟨p, ys, rfl, hq, q⟩ := h
  obtain ⟨u, rfl, rx⟩ := vals1 r
  cases rx
  obtain ⟨its, r', pl, hz⟩ := I.list hq
  have hlen := r'.length
  refine call_tuple_list pl.isList (fun h' kp => ?_) (by simp only [List.size_toArray] <;> omega)
  have I1 : Inv X pins σ H { s with heap := h' } := I.kept (t' := s.toks) kp
  have hp := Heap.get?_push_size h' (o := { cls := .type "tuple", data := .seq its.toArray }) rfl
  have I2 : Inv X pins σ (upd H h'.objs.size (.frz { cls := .type "tuple", data := .seq its.toArray } (.tup ys))) { s with heap := h'.push { cls := .type "tuple", data := .seq its.toArray } } :=
    I1.laid (t' := s.toks) (fun b o e => Heap.get?_push_of_some _ e) (Nat.le_refl _) (show ObjOk X.prog X.w _ _ _ (.frz _ (.tup ys)) from ⟨hp, hz, its, r', IsTup.new _ _⟩)
  exact ⟨.ref h'.objs.size, _, I2, rfl, q _ _ (I1.hok.fresh (Nat.le_refl _)) rfl⟩
theorem de_ptl (hg : Gl X "tuple") (hm : X.mg "tuple" = none) (ha : DE L G n X a ia) (he : starEach [a] X.env = (false, eval a X.env) :: starEach [] X.env) (hpl : (backTo pos (starEach [] X.env)).any (·.1) = false) : DE L G n X (.Call (.Name "tuple" p) [a] [] pos) (.ptl ia) := fun C W tk =>
  pe_imp (pe_callTy cr_ptl hg hm (by decide +kernel) (pa_cons (ha C W tk) pa_nil he) (by decide) (by decide) he hpl) fun σ H Q ⟨N, δ, A, Qd, Ed, rs, ra, h, hq, hx⟩ =>
    LE.use rs ra h (fun d A1 v1 H1 rv1 ra1 ex1 rs1 q1 => by
      split at q1
      · next xs e =>
        obtain ⟨q, vs, rfl, h1, h2⟩ := lstD_rv e ra1 rv1
        exact ⟨q, vs, rfl, by rw [C.K]; exact h1, fun p ob np ho => Kt.ptp (fun d A' v' H' r1 r2 e q => hq d A' v' H' r1 r2 (ex1.trans e) q) ra1 h2 ho q1 p np⟩
      · exact q1.elim) hx
end
/-! ### dict(tuple of pairs) -/
theorem tuple_keys_none : typeLookup (.type "tuple") "keys" = pure none := am_miss_of_fast (by first | decide +kernel | rfl)
section
variable {prog : Program} {w : World} {A : Around} {E : Value → Shared → Prop}
theorem miss_tuple {s : Shared} {a : Addr} {o : Obj} {xs : Array Value} {k : Nat} {Q : Option Value → Shared → Prop} (hx : s.heap.get? a = some o) (hc : o.cls = .type "tuple") (hdat : o.data = .seq xs k) (hd : o.dict = none) (hA : A.handled = none)
    (h : ∀ h' tk, (∀ b ob, s.heap.get? b = some ob → h'.get? b = some ob) → Q none { s with heap := h', toks := tk }) : wpAny (model prog w) A (getAttr? (.ref a) "keys") Q E s := by
  obtain ⟨c, dct, dat, sl⟩ := o
  simp only at hc hdat hd
  subst hc hdat hd
  obtain ⟨hp, g, d, tk, os⟩ := s
  have hT : ∀ tk', (⟨hp, g, d, tk', os⟩ : Shared).TypeIs (.ref a) "tuple" := fun _ => ⟨_, hx, rfl⟩
  have hmiss := tuple_keys_none
  have hname : (["__module__", "__name__", "__qualname__", "__doc__", "__annotations__"] : List Str).contains "keys" = false := by decide +kernel
  have hsz : ("keys" : Str).length + 100 ≤ sizeLine := by first | size_fits | decide +kernel
  have f1 := sub_AttributeError
  have f3 := PySem.F.slot_tuple_getattribute.lookup
  have f4 := PySem.F.slot_tuple_getattribute.bind (.ref a)
  have f5 := am_tuple_getattr_none
  unfold getAttr? getAttrBy? getAttrBy
  repeat (any_goals (first | assumption | exact hT _ | ((with_reducible show wpAny _ _ (call (Value.builtin "tuple.__getattribute__") _ _) _ _ _); refine call_meets PySem.F.slot_tuple_getattribute (hT _) am_entry_tuple_getattribute (PySem.F.args_tuple_getattribute_2 _ _) (meets_getattribute_miss_tuple a xs k sl "keys" _ hmiss hname hsz) ⟨hx, hA, fun h' tk' e hx' => ?_⟩) | wp_step))
  obtain ⟨t', u', he⟩ := hx'.there
  show wpAny _ _ (getattributeRaised _ _ _ _ _ _ _) _ _ _
  unfold getattributeRaised
  repeat (any_goals (first | assumption | wp_step))
  all_goals first | exact h _ _ hx'.keeps | (dsimp only; repeat (any_goals (first | assumption | exact h _ _ hx'.keeps | wp_step)))
theorem upd_loopT {R : Result → Shared → Prop} {S I l : Addr} {items : Array Value} {res : Value} (hh : A.handled = none) (hlI : l ≠ I) (hSI : S ≠ I) (hSl : S ≠ l) :
    ∀ (rest : List (Key × Value)) (i : Nat) (acc : List (Key × Value)) (ix : Int) (t : Tok) (s : Shared), items.size = i + rest.length → acc.length + rest.length ≤ sizeLine →
      (∀ (j : Nat) (q : Key × Value), rest[j]? = some q → ∃ (b : Addr) (u : Value), items[i + j]? = some (.ref b) ∧ b ≠ S ∧ b ≠ I ∧ IsTup s.heap b #[u, q.2] ∧ keyIs q.1 u = true) →
      s.heap.IsTupleIter I l i → s.heap.IsTuple l items → s.heap.DictOf (mixKind prog w) S acc →
      (∀ h' tk, h'.DictOf (mixKind prog w) S (merged acc rest) → (∀ b o, b ≠ S → b ≠ I → s.heap.get? b = some o → h'.get? b = some o) → R (.ok (.ret res)) { s with heap := h', toks := tk }) →
      codeAny (model prog w) A (.builtin "dict.update.loop" ⟨[.ref S, .ref I, .int ix t, res], []⟩) R s
  | [], i, acc, ix, t, s, hsz, hln, ht, hit, hl, hm, hR => by
    refine codeAny_builtin ud_entry ?_
    rw [Around.under_plainId ud_plain _]
    show wpAny _ A.in1 (pyNext (.ref I) >>= _) _ _ s
    refine wpAny_bind (wpAny_pyNext_tuple_end (A := A.in1) hh hit hl (by first | exact Array.getElem?_eq_none (Nat.le_of_eq hsz) | (simp at hsz; simp; omega)) fun h' he => ?_)
    show wpAny _ A.in1 (Builtin.Dict.addKeywords S [] >>= _) _ _ _
    refine wpAny_bind (wpAny_pure (wpAny_pure ?_))
    exact hR h' s.toks (hm.extBut he hSI) fun b o _ hb e => he b o hb e
  | q :: rest, i, acc, ix, t, s, hsz, hln, ht, hit, hl, hm, hR => by
    obtain ⟨b, u, hb, hbS, hbI, htup, hk⟩ := ht 0 q rfl
    rw [List.length_cons] at hsz hln
    refine codeAny_builtin ud_entry ?_
    rw [Around.under_plainId ud_plain _]
    show wpAny _ A.in1 (pyNext (.ref I) >>= _) _ _ s
    refine wpAny_bind (wpAny_pyNext_tuple_item (x := .ref b) hit hl (by simpa using hb) fun h1 hit1 hs1 => ?_)
    have ht1 : IsTup h1 b #[u, q.2] := htup.extBut hs1.extBut hbI
    have hl1 : h1.IsTuple l items := IsTup.extBut hl hs1.extBut hlI
    have hm1 : h1.DictOf (mixKind prog w) S acc := hm.extBut hs1.extBut hSI
    obtain ⟨o, ho, hc, n, hd⟩ := id ht1
    show wpAny _ A.in1 (holding [Value.ref b] _ >>= _) _ _ _
    refine wpAny_bind (wpAny_holding ?_)
    refine wpAny_bind (wpAny_tryCatch ?_)
    unfold Builtin.Dict.pairItems
    refine wpAny_bind (wpAny_typeOf (T := "tuple") ⟨o, ho, hc⟩ ?_)
    rw [if_pos (by first | decide | rfl | simp)]
    refine wpAny_bind (wpAny_seqItems ho hd (wpAny_pure ?_))
    show wpAny _ A.in1 (holding [u, q.2] (dictSet S u q.2)) _ _ _
    refine wpAny_holding (wpAny_dictSet_pairs (knd := mixKind prog w) (k := q.1) hk hm1 (fun h2 hm2 hs2 => ?_) (by omega))
    refine wpAny_pure ⟨plainId_quiet ud_plain _, upd_loopT (items := items) hh hlI hSI hSl rest (i + 1) (stored acc q.1 q.2) (ix + 1) 0 _ (show items.size = i + 1 + rest.length by omega) ?_ (fun j q' e => ?_) ?_ ?_ hm2 fun h' tk hd' k => ?_⟩
    · have z := stored_length_le acc q.1 q.2
      omega
    · obtain ⟨b', u', hb', hbS', hbI', htup', hk'⟩ := ht (j + 1) q' (by simpa using e)
      refine ⟨b', u', ?_, hbS', hbI', (htup'.extBut hs1.extBut hbI').extBut hs2.extBut hbS', hk'⟩
      rw [show i + 1 + j = i + (j + 1) by omega]
      exact hb'
    · exact hit1.at fun o' e => hs2.extBut I o' (Ne.symm hSI) e
    · exact IsTup.extBut hl1 hs2.extBut (Ne.symm hSl)
    · exact hR h' tk hd' fun c oc h3 h4 e => k c oc h3 h4 (hs2.extBut c oc h3 (hs1.extBut c oc h4 e))
theorem call_dict_pairsT {s : Shared} {l : Addr} {ol : Obj} {items : Array Value} {n : Nat} {prs : List (Key × Value)} {Q : Value → Shared → Prop} (hh : A.handled = none) (hl : s.heap.get? l = some ol) (hc : ol.cls = .type "tuple") (hd : ol.dict = none)
    (hdat : ol.data = .seq items n) (hsz : items.size = prs.length) (hln : prs.length ≤ sizeLine)
    (ht : ∀ (j : Nat) (q : Key × Value), prs[j]? = some q → ∃ (b : Addr) (u : Value), items[j]? = some (.ref b) ∧ IsTup s.heap b #[u, q.2] ∧ keyIs q.1 u = true)
    (h : ∀ h' tk, h'.DictOf (mixKind prog w) s.heap.objs.size (merged [] prs) → (∀ b o, s.heap.get? b = some o → h'.get? b = some o) → Q (.ref s.heap.objs.size) { s with heap := h', toks := tk }) :
    wpAny (model prog w) A (call (.type "dict") [.ref l]) Q E s := by
  refine callType_codes (Q₁ := fun obj s₁ => obj = .ref s.heap.objs.size ∧ s₁ = { s with heap := s.heap.push { cls := .type "dict", data := .dict #[] } }) PySem.F.kt_called_dict (PySem.F.kt_typeCall_dict_1 _) PySem.F.entry_dict_init (kt_code_dict_new _ ⟨rfl, rfl⟩) ?_
  rintro obj s₁ ⟨rfl, rfl⟩
  have hnew : (s.heap.push { cls := .type "dict", data := .dict #[] }).DictOf (mixKind prog w) s.heap.objs.size [] := Heap.DictOf.new s.heap
  have k0 : ∀ b o, s.heap.get? b = some o → (s.heap.push { cls := .type "dict", data := .dict #[] }).get? b = some o := fun b o e => Heap.get?_push_of_some _ e
  refine ⟨hnew.typeIs, PySem.F.args_dict_init_2 _ _, ?_⟩
  unfold Builtin.«dict.__init__»
  refine wpAny_bind ?_
  unfold Builtin.Dict.selfAndRest
  refine wpAny_bind (wpAny_notOrdered_dict hnew.typeIs ?_)
  show wpAny _ _ (pure (s.heap.objs.size, [Value.ref l])) _ _ _
  refine wpAny_pure ?_
  show wpAny _ _ (Builtin.Dict.updateFrom "dict.__init__" s.heap.objs.size (.ref l) [] .none) _ _ _
  unfold Builtin.Dict.updateFrom
  refine wpAny_bind (wpAny_typeOf (T := "tuple") ⟨ol, k0 _ _ hl, hc⟩ ?_)
  rw [if_pos (by first | decide | rfl | simp)]
  refine wpAny_bind (miss_tuple (k0 _ _ hl) hc hdat hd hh fun h1 tk1 hk1 => ?_)
  rw [if_pos (show (none : Option Value).isNone = true from rfl)]
  refine wpAny_bind (wpAny_rule ?_)
  have hl1 : h1.IsTuple l items := ⟨ol, hk1 _ _ (k0 _ _ hl), hc, n, hdat⟩
  have hS1 : s.heap.objs.size < h1.objs.size := by
    have e : (s.heap.push { cls := .type "dict", data := .dict #[] }).get? s.heap.objs.size = some { cls := .type "dict", data := .dict #[] } := Heap.get?_push_size _ rfl
    exact Heap.lt_size (hk1 _ _ e)
  refine wpAny_bind (wpAny_pyIter_tuple hl1 ?_)
  have k2 : ∀ b o, h1.get? b = some o → (h1.push { cls := .type "tuple_iterator", data := .fields #[.ref l, .int 0 0] }).get? b = some o := fun b o e => Heap.get?_push_of_some _ e
  have hlt : l < s.heap.objs.size := Heap.lt_size hl
  have key := upd_loopT (prog := prog) (w := w) (A := A.in1) (R := wants (fun r s₂ => r = .none ∧ Q (.ref s.heap.objs.size) s₂) E) (S := s.heap.objs.size) (I := h1.objs.size) (l := l) (items := items) (res := Value.none) hh
    (Nat.ne_of_lt (Nat.lt_trans hlt hS1)) (Nat.ne_of_lt hS1) (Nat.ne_of_gt hlt) prs 0 [] 0 0
    { s with heap := h1.push { cls := .type "tuple_iterator", data := .fields #[.ref l, .int 0 0] }, toks := tk1 } (by rw [hsz, Nat.zero_add]) (by rw [List.length_nil, Nat.zero_add]; exact hln)
    (fun j q e => by
      obtain ⟨b, u, e1, e2, e3⟩ := ht j q e
      have hb : b < s.heap.objs.size := e2.lt
      exact ⟨b, u, by rw [Nat.zero_add]; exact e1, Nat.ne_of_lt hb, Nat.ne_of_lt (Nat.lt_trans hb hS1), e2.keeps fun c o z => k2 _ _ (hk1 _ _ (k0 _ _ z)), e3⟩)
    ⟨_, Heap.get?_push_size _ rfl, rfl, rfl⟩ (IsTup.keeps hl1 fun b o e => k2 _ _ e) ((hnew.at fun o e => hk1 _ _ e).at fun o e => k2 _ _ e)
    (fun h' tk hd' k => ⟨rfl, h h' tk hd' fun b o e => k b o (Nat.ne_of_lt (Heap.lt_size e)) (Nat.ne_of_lt (Nat.lt_trans (Heap.lt_size e) hS1)) (k2 _ _ (hk1 _ _ (k0 _ _ e)))⟩)
  first
    | exact wpAny_pure ⟨plainId_quiet ud_plain _, key⟩
    | exact wpAny_bind (wpAny_pure (wpAny_pure ⟨plainId_quiet ud_plain _, key⟩))
end
section
variable {X : Cx}
def rDictT (K : PySem.W.Frag) : List V → Hp → VK → Prop := fun xs H Q => ∃ (a : Addr) (o : Obj) (ps : List Addr) (kvs : List (Key × V)), xs = [.ref a] ∧ H a = some (.frz o (.tup (ps.map V.ref))) ∧ o.dict = none ∧ Paired (fun p kv => SqT K H p [kV kv.1, kv.2]) ps kvs ∧
    ∀ p, H p = none → Q (.ref p) (upd H p (.dK (mergeK [] kvs)))
theorem cr_dictt (hcalm : X.calm = true) : CallR X (.type "dict") (rDictT X.K) := by
  intro pins s σ H xs us Q I r q
  obtain ⟨a, ob, ps, kvs, ex, hq, hd, hp, q⟩ := q
  subst ex
  obtain ⟨u, eu, rx⟩ := vals1 r
  subst eu
  cases rx
  obtain ⟨ho, hz, its, rv, ⟨o2, ho2, hc, n, hdat⟩⟩ := I.hok a _ hq
  have eo : ob = o2 := Option.some.inj (ho.symm.trans ho2)
  subst eo
  have ei := refs_at rv
  subst ei
  rw [List.length_map] at hz
  obtain ⟨prs, rel, hl, hpr⟩ := pairs_of I hp
  refine call_dict_pairsT (prs := prs) (I.ok.hd hcalm) ho hc hd hdat (by simp [hl]) (by rw [hl]; exact hz) (fun j q' e => ?_) fun h' tk hd' k => ?_
  · obtain ⟨b, u, e1, e2, e3⟩ := hpr j q' e
    exact ⟨b, u, by simp [e1], e2, e3⟩
  · have hm : (s.heap.objs.size == sysModules) = false := beq_eq_false_iff_ne.mpr (Nat.ne_of_gt I.big)
    have hlen : (mergeK [] kvs).length ≤ sizeLine := by
      refine Nat.le_trans (length_mergeK kvs []) ?_
      rw [List.length_nil, Nat.zero_add, rel.length, hl]
      exact hz
    exact ⟨.ref s.heap.objs.size, upd H s.heap.objs.size (.dK (mergeK [] kvs)), I.laid (t' := tk) k (Nat.le_refl _) (show ObjOk X.prog X.w _ _ _ (.dK (mergeK [] kvs)) from ⟨hlen, hm, merged [] prs, KV.merge rel .nil, hd'⟩), rfl, q _ (I.hok.fresh (Nat.le_refl _))⟩
theorem db_dictt {L : Lk} : DBi L (rDictT L.K) (dBi .dictt) := by
  intro ds vs A N H Q Qd rv ra h k
  match ds, rv, h with
  | [.ptp xs], rv, h =>
    obtain ⟨v, rfl, r⟩ := rvs1 rv
    have h : (match alls kv1 xs with | some kvs => newD A (mergeD [] kvs) Qd | none => False) := h
    split at h
    · next kvs e2 =>
      obtain ⟨b, o, ws, rfl, h1, h2, h3⟩ := rv_ptp.mp r
      obtain ⟨ps, us, rfl, h4, h5⟩ := alls_kv e2 h3
      exact ⟨b, o, ps, us, rfl, h1, h2, h4, k.dic ra (h5.merge .nil) h⟩
    · exact h.elim
  | [], _, h => exact (show False from h).elim
  | [.non], _, h => exact (show False from h).elim
  | [.bl _], _, h => exact (show False from h).elim
  | [.int _], _, h => exact (show False from h).elim
  | [.str _], _, h => exact (show False from h).elim
  | [.tup _], _, h => exact (show False from h).elim
  | [.rol _], _, h => exact (show False from h).elim
  | [.fl _], _, h => exact (show False from h).elim
  | [.rod _ _], _, h => exact (show False from h).elim
  | [.ref _], _, h => exact (show False from h).elim
  | d :: _ :: _, _, h => exact (show False from h).elim
end
end DL

set_option Elab.async false
set_option linter.all false
set_option maxRecDepth 100000
/-! raise, try -/
namespace DL
open PySem PySem.Spec PyProof.Rows L2
/-- what of the text an exception's class must have -/
structure ExC' (K : PySem.W.Frag) (C : Addr) : Prop where
  xP : PySem.W.excIn K C [.type "ValueError", .type "Exception", .type "BaseException", .type "object"] "ValueError.__new__" = true
  kP : PySem.W.keepIn K (.ref C) = true
  bP : PySem.W.subIn K (.ref C) (.type "BaseException") = some true
  tP : PySem.W.typeIn K (.ref C) = some (.type "type")
section
variable {X : Cx} {C : Addr} {bmB : List Value} {B newId initId : String}
theorem pmk_own0 {x : Str} {p pos : Pos} (F : ExcBaseFacts B newId initId bmB) (q : PySem.W.excIn X.K C bmB newId = true) (gC : X.mg x = some (.ref C)) (kC : PySem.W.keepIn X.K (.ref C) = true) (r : Raises X (.ref C)) (hg : Gl X x)
    (hdb : (x == ("__debug__" : Str)) = false) : PMk X (.Call (.Name x p) [] [] pos) (fun _ H Q => Q (.ref C) none H) := by
  intro pins s σ H Q I h
  refine wpAny_Call_Name_kw (ld_glob I hg gC ?_ hdb)
  refine PySem.W.callWith_K0 I.kIn kC ?_
  obtain ⟨bm, N, nm, qn, bs, hdct, sn, sub, ab, col, dd, k0, k1, k2, k3, k5, mN, hC, hN, hni, T⟩ := exc_obj I.kIn q
  refine wpAny_call_exc_subT F T hC hN hni (fun h' e hm => ?_) (by show 0 ≤ sizeLine; exact Nat.zero_le _)
  exact mk_of I hm r h (I.hok.gone hm.new)
end
section
variable {L : Lk} {G : Gm} {n : Nat} {X : Cx} {x y : Str} {p pos : Pos}
theorem ds_raise {i : Nat} {C : Addr} (hi : L.XV i = .ref C) (R : ExC' L.K C) (gC : X.mg x = some (.ref C)) (hg : Gl X x) (hdb : (x == ("__debug__" : Str)) = false) : DS L G n X (.Raise (some (.Call (.Name x p) [] [] pos)) none pos) (.rais i) := fun Cn po W tk =>
  ps_imp (ps_raise Cn.calm tk (pmk_own0 PySem.F.excBase_ValueError (by rw [Cn.K]; exact R.xP) gC (by rw [Cn.K]; exact R.kP) (raises_own (by rw [Cn.K]; exact R.bP) (by rw [Cn.K]; exact R.tP)) hg hdb)) fun D σ H ⟨N, δ, A, P, rs, ra, h, hn, hr, hc, hx⟩ => by
    show W (.ref C) none σ H
    rw [← hi]
    exact hx i δ A σ H rs ra (Ext.refl _ _) h
theorem ds_raiseP {i : Nat} {C : Addr} {pos' : Pos} (hi : L.XV i = .ref C) (R : ExC' L.K C) (gC : X.mg x = some (.ref C)) (hg : Gl X x) (hdb : (x == ("__debug__" : Str)) = false) : DS L G n X (.Raise (some (.Call (.Name x p) [] [] pos)) none pos') (.rais i) := fun Cn po W tk =>
  ps_imp (ps_raise Cn.calm tk (pmk_own0 PySem.F.excBase_ValueError (by rw [Cn.K]; exact R.xP) gC (by rw [Cn.K]; exact R.kP) (raises_own (by rw [Cn.K]; exact R.bP) (by rw [Cn.K]; exact R.tP)) hg hdb)) fun D σ H ⟨N, δ, A, P, rs, ra, h, hn, hr, hc, hx⟩ => by
    show W (.ref C) none σ H
    rw [← hi]
    exact hx i δ A σ H rs ra (Ext.refl _ _) h
theorem Cn.tr {pn : List (Addr × Obj)} {xe : Value → Shared → Prop} (C : Cn L G n X) : Cn L G n (X.tr pn xe) := ⟨C.K, C.calm, C.room, C.nd, C.fns, C.cls⟩
/-- a suite that is no more than quiet statements -/
def DQt (L : Lk) (G : Gm) (n : Nat) (X : Cx) (st : List Stmt) (is : List IS) : Prop := Cn L G n X → ∀ (a : Addr) (pn : List (Addr × Obj)), PSs (X.suite a pn) st (LS L W0 (wpSs (callN G n) G is))
theorem dqt_set {b : Expr} {j : Nat} {q v : Pos} {d : D} {w : V} (hb : ∀ X', PE X' b (tC w)) (hd : ∀ K A N H, RV K A N H d w) (hj : X.N[j]? = some y) (hl : Loc X.env.scope y) (hs : swapsWith b (some (.Name y q)) v.line X.env = pure false) (hf : X.fn y = true ∨ X.env.scope.names.lookup y = some .local) : DQt L G n X [.Assign [.Name y q] b v] [.set j (.cst d)] := fun C a pn =>
  pss_imp (pss_cons (ps_set (X := X.suite a pn) C.nd hj hl (hb _) hs hf) pss_nil) fun D σ H ⟨N, δ, A, P, rs, ra, h, hn, hr, hc, hx⟩ =>
    hn _ A _ H (rs.set (hd _ _ _ _) j) ra (Ext.refl _ _) h
theorem dqt_ret {b : Expr} {v : Pos} {d : D} {w : V} (hb : ∀ X', PE X' b (tC w)) (hd : ∀ K A N H, RV K A N H d w) : DQt L G n X [.Return (some b) v] [.ret (.cst d)] := fun C a pn =>
  pss_imp (pss_cons (ps_ret (X := X.suite a pn) (hb _)) pss_nil) fun D σ H ⟨N, δ, A, P, rs, ra, h, hn, hr, hc, hx⟩ =>
    hr d A w H (hd _ _ _ _) ra (Ext.refl _ _) h
theorem dqt_inc {j : Nat} {i : Int} {k : Nat} {q q1 q2 q3 v : Pos} (hj : X.N[j]? = some y) (hl : Loc X.env.scope y) (hv : Vis X.env.scope y) (hd : (y == ("__debug__" : Str)) = false) (hcd : (y == ("__classdict__" : Str)) = false) (hs : swapsWith (.BinOp (.Name y q1) .Add (.Constant (.int i) k q2) q3) (some (.Name y q)) v.line X.env = pure false) (hf : X.fn y = true ∨ X.env.scope.names.lookup y = some .local) :
    DQt L G n X [.Assign [.Name y q] (.BinOp (.Name y q1) .Add (.Constant (.int i) k q2) q3) v] [.set j (.bin .add (.var j) (.cst (.int i)))] := fun C a pn =>
  pss_imp (pss_cons (ps_set (X := X.suite a pn) C.nd hj hl (pe_op op_add (pe_var (X := X.suite a pn) hj hv hd hcd) pe_int) hs hf) pss_nil) fun D σ H ⟨N, δ, A, P, rs, ra, h, hn, hr, hc, hx⟩ => by
    have h : (match δ[j]? with | some (some d) => dBin .add d (.int i) A (fun x A1 => P.nx (δ.set j (some x)) A1) | _ => False) := by
      have h2 := h
      simp only [wpSs, wpS, wpE] at h2
      split at h2
      · next d e => first | (rw [e]; exact h2) | exact h2
      · exact h2.elim
    split at h
    · next d e =>
      cases d with
      | int m =>
        obtain ⟨w, e1, r⟩ := rs_get rs e
        rw [rv_int.mp r] at e1
        exact ⟨_, e1, m, i, rfl, rfl, hn _ A _ H (rs.set (rv_int.mpr rfl) j) ra (Ext.refl _ _) h⟩
      | _ => exact (show False from h).elim
    · exact h.elim
theorem ds_try {c : Value} {body suite : List Stmt} {b₀ : Stmt} {np pos' : Pos} {iss jss : List IS} {xs : List Nat} (hs : X.stack = X.env :: X.outer) (hf : X.env.frame = some X.env.locals) (hc : Names X x c) (hm : ∀ i ∈ xs, PySem.W.exmOne L.K (L.XV i) c = some true)
    (hb : ∀ (pn : List (Addr × Obj)) (xe : Value → Shared → Prop), DSs L G n (X.tr pn xe) body iss) (hq : DQt L G n X (b₀ :: suite) jss) : DS L G n X (.Try body [.ExceptHandler (some (.Name x np)) none (b₀ :: suite) pos'] [] [] pos) (.tryx iss xs jss) := fun C po W tk => by
  refine ps_imp (ps_try_only hs hf hc tk (tb := fun W => LS L W (wpSs (callN G n) G iss)) (ts := fun _ _ _ => LS L W0 (wpSs (callN G n) G jss)) (fun W pn xe tk' po' => hb pn xe C.tr po' W tk') fun a oe cls d pn _ _ => hq C a _) fun D σ H ⟨N, δ, A, P, rs, ra, h, hn, hr, hc', hx⟩ => ?_
  refine ⟨N, δ, A, _, rs, ra, h, hn, hr, hc', fun i δ' A' σ' H' rs' ra' e q => ?_⟩
  obtain ⟨q1, q2⟩ := q
  refine ⟨true, by rw [C.K]; exact hm i q1, fun _ a _ => ?_, fun z => by cases z⟩
  refine ⟨N, δ', A', ⟨P.nx, P.rt, P.ct, fun _ _ _ => False⟩, rs', ra', ?_, fun δ2 A2 σ2 H2 r1 r2 e2 q => hn δ2 A2 σ2 H2 r1 r2 (e.trans e2) q, fun d A2 v H2 r1 r2 e2 q => hr d A2 v H2 r1 r2 (e.trans e2) q, fun δ2 A2 σ2 H2 r1 r2 e2 q => hc' δ2 A2 σ2 H2 r1 r2 (e.trans e2) q, fun _ _ _ _ _ _ _ _ z => z⟩
  exact q2
end
end DL

set_option Elab.async false
set_option linter.all false
set_option maxRecDepth 100000
/-! enumerate, range with a step, enumerate(zip) -/
namespace DL
open PySem PySem.Spec PyProof.Rows L2
/-! ### enumerate(tuple) -/
def IteT (K : PySem.W.Frag) (a : Addr) : It :=
  ⟨fun i H => ∃ (xs : List V) (x : V), SqT K H a xs ∧ xs[i]? = some x, fun i H v H' => ∃ T x, v = .ref T ∧ H T = none ∧ H' = upd H T (.tup [.int (i : Nat), x]) ∧ ∀ xs, SqT K H a xs → xs[i]? = some x, fun i H => ∃ xs : List V, SqT K H a xs ∧ xs.length ≤ i⟩
theorem turn_enumT {P : Program} {w : World} {K : PySem.W.Frag} {elts : List Expr} {kk : Nat} {tpos : Pos} (a e it : Addr) :
    Turn P w K (.Tuple elts kk tpos) (IteT K a) [e, it] e (fun i h => (∃ old, IsEnum h e it ((i : Nat) : Int) old) ∧ h.IsTupleIter it a i ∧ e ≠ it ∧ a ≠ e ∧ a ≠ it) where
  mem := by simp
  obj := fun i h st b hb => by
    obtain ⟨⟨old, he⟩, ⟨o, ho, hc, hd⟩, _⟩ := st
    have e' : b = e ∨ b = it := by simpa using hb
    rcases e' with z | z
    · rw [z]; exact ⟨_, he, fun v q => nomatch q⟩
    · rw [z]; exact ⟨o, ho, fun v q => by rw [hd] at q; cases q⟩
  keep := fun i h h' st k => let ⟨⟨old, he⟩, hi, hne⟩ := st; ⟨⟨old, k e (by simp) _ he⟩, hi.at fun o q => k it (by simp) o q, hne⟩
  item := by
    intro X hP hw hK hc i pins s σ H E I hf st hg
    subst hP hw hK
    obtain ⟨⟨old, he⟩, hit, hne, hae, hai⟩ := st
    obtain ⟨xs, x, hq, hx⟩ := hg
    obtain ⟨its, rv, p, hz⟩ := I.tuple hq
    obtain ⟨u, hu, ru⟩ := rv.get hx
    have hel : e < s.heap.objs.size := Heap.lt_size he
    have hil : it < s.heap.objs.size := by obtain ⟨_, q, _⟩ := hit; exact Heap.lt_size q
    have hlt : i < its.toArray.size := by
      have := (List.getElem?_eq_some_iff.mp hu).1
      simpa using this
    refine wpAny_pyNext_enum_itemD (Draws.tuple (A := X.A.in1) (I.ok.hd hc) it a hai its.toArray) he ⟨hit, p⟩ hlt hne (by simp; exact ⟨hne, Ne.symm hae⟩) fun y h' tk hy ho hst' hT hsz hk => ?_
    obtain ⟨hit', p'⟩ := hst'
    have ey : y = u := by
      rw [List.getElem?_toArray, hu] at hy; exact (Option.some.inj hy).symm
    subst ey
    refine ⟨_, rfl, wpAny_letOwnedTupleGo_enum (s := { s with heap := h', toks := tk + 1 }) ho fun h'' he' sb => ?_⟩
    have hT2 : h''.get? s.heap.objs.size = some { cls := .type "tuple", data := .seq #[.int i tk, y] } := (sb.2 _ (Nat.ne_of_gt hel)).trans hT
    have new : ObjOk X.prog X.w (upd H s.heap.objs.size (.tup [.int (i : Nat), x])) h'' s.heap.objs.size (.tup [.int (i : Nat), x]) :=
      ⟨by show 2 ≤ sizeLine; decide, [.int i tk, y], .cons ⟨_, rfl⟩ (.cons ru .nil), ⟨_, hT2, rfl, _, rfl⟩⟩
    have I1 : Inv X pins σ (upd H s.heap.objs.size (.tup [.int (i : Nat), x])) { s with heap := h'', toks := tk + 1 } :=
      I.turnedNew (ch := [e, it]) (fun b ob hb q => (sb.2 b (fun z => hb (by simp [z]))).trans (hk b ob (fun z => hb (by simp [z])) (fun z => hb (by simp [z])) q)) hf (Nat.le_refl _) new
    refine ⟨.ref s.heap.objs.size, _, I1, rfl, ⟨_, x, rfl, I.hok.fresh (Nat.le_refl _), rfl, fun ys hy => by rw [I.tuple_inj hy hq]; exact hx⟩, ⟨⟨y, ?_⟩, hit'.at fun o q => (sb.2 it (Ne.symm hne)).trans q, hne, hae, hai⟩, fun b hb => ?_⟩
    · have e1 : ((i + 1 : Nat) : Int) = (i : Int) + 1 := by omega
      rw [e1]; exact he'
    · have hb' : b < s.heap.objs.size := by
        have e' : b = e ∨ b = it := by simpa using hb
        rcases e' with z | z
        · rw [z]; exact hel
        · rw [z]; exact hil
      rw [upd_ne (Nat.ne_of_lt hb')]
      exact (hf b hb).1
  done := by
    intro X hP hw hK hc i pins s σ H E I hf st hg
    subst hP hw hK
    obtain ⟨⟨old, he⟩, hit, hne, hae, hai⟩ := st
    obtain ⟨xs, hq, hx⟩ := hg
    obtain ⟨its, rv, p, hz⟩ := I.tuple hq
    obtain ⟨f0, f1, f2, f3, f4, f5⟩ := hf it (by simp)
    have hl := rv.length
    unfold pyNext
    have hT : s.TypeIs (.ref e) "enumerate" := ⟨_, he, rfl⟩
    refine wpAny_bind (wpAny_attempt (wpAny_callSpecial?_slot (name := Str.ofString "__next__") hT F.slot_enumerate_next
      (wpAny_call_entry F.slot_enumerate_next hT F.entry_enumerate_next ?_ (F.args_enumerate_next_1 _))))
    show wpAny _ _ (field (.ref e) 2 >>= _) _ _ _
    refine wpAny_bind (wpAny_field he rfl (x := .ref it) rfl ?_)
    refine wpAny_bind (wpAny_nextOf_tuple_end (A := X.A.in1) (I.ok.hd hc) hit p (by simp; omega) fun h' x eb hx' => ?_)
    obtain ⟨o, ho, hc'⟩ := hx'
    refine wpAny_bind (wpAny_isInstance (T := "StopIteration") (b := true) ⟨o, ho, hc'⟩ isSubtype_stop ?_)
    exact wpAny_pure ⟨rfl, I.turned (t' := s.toks) (fun b o hb q => eb b o hb q) f0 f1 f3 f4 f5⟩
  self := fun A i s Q E st h => let ⟨⟨_, he⟩, _⟩ := st; wpAny_pyIter_enum he h
end DL

set_option Elab.async false
set_option linter.all false
set_option maxRecDepth 100000
set_option maxHeartbeats 1000000
/-! enumerate(zip(a, b)) of two tuples: the zip's pair is told out to the enumerate, so that the zip finds it still there at its next turn (or gone: both ways) -/
namespace DL
open PySem PySem.Spec PyProof.Rows L2
open PySem.Sem (wp)
abbrev IsZipF (h : Heap) (z TI TO : Addr) (f0 : Value) (f : Bool) : Prop :=
  h.get? z = some { cls := .type "zip", dict := none, data := .fields #[f0, .bool f, .bool false, .ref TI, .ref TO], slots := #[] }
section
variable {prog : Program} {w : World} {A : Around} {E : Value → Shared → Prop} {s : Shared}
theorem zipF_next_item {z TI TO i1 i2 l1 l2 : Addr} {k1 k2 : Nat} {xs ys : Array Value} {x y a b f0 : Value} {f : Bool} {Q : Value → Shared → Prop} (D : ZipApart z TI TO i1 i2 l1 l2)
    (hz : IsZipF s.heap z TI TO f0 f) (hfree : ∀ Q : Bool → Shared → Prop, Q true s → wpAny (model prog w) A (Builtin.SmallTypes.ownedTupleIsFree (.ref z)) Q E s) (hTI : IsPair s.heap TI (.ref i1) (.ref i2)) (hTO : IsPair s.heap TO a b)
    (h1 : s.heap.IsTupleIter i1 l1 k1) (h2 : s.heap.IsTupleIter i2 l2 k2) (hl1 : s.heap.IsTuple l1 xs) (hl2 : s.heap.IsTuple l2 ys) (hx : xs[k1]? = some x) (hy : ys[k2]? = some y)
    (hQ : ∀ h', IsZipF h' z TI TO (rawInt s.heap.objs.size) false → IsPair h' TO x y → h'.IsTupleIter i1 l1 (k1 + 1) → h'.IsTupleIter i2 l2 (k2 + 1) → IsPair h' s.heap.objs.size x y → h'.objs.size = s.heap.objs.size + 1 →
      (∀ c o, c ≠ z → c ≠ TO → c ≠ i1 → c ≠ i2 → s.heap.get? c = some o → h'.get? c = some o) → Q (.ref s.heap.objs.size) { s with heap := h' }) :
    wpAny (model prog w) A (Builtin.«zip.__next__» ⟨[.ref z], []⟩) (fun fin s' => ∃ v, fin = .done (.ret v) ∧ Q v s') E s := by
  show wpAny _ _ (field (.ref z) 2 >>= _) _ _ _
  refine wpAny_bind (wpAny_field hz rfl (x := .bool false) rfl ?_)
  show wpAny _ _ (field (.ref z) 3 >>= _) _ _ _
  refine wpAny_bind (wpAny_field hz rfl (x := .ref TI) rfl ?_)
  refine wpAny_bind (wpAny_seqItems hTI rfl ?_)
  show wpAny _ _ (Builtin.SmallTypes.ownedTupleIsFree (.ref z) >>= _) _ _ _
  refine wpAny_bind (hfree _ ?_)
  simp only [if_true]
  refine wpAny_bind (wpAny_rule ?_)
  refine wpAny_bind (wpAny_field hz rfl (x := .ref TO) rfl ?_)
  refine wpAny_bind (wpAny_setField_rec hz (by simp) fun h₁ hz₁ hs₁ => ?_)
  replace hz₁ : IsZipF h₁ z TI TO .ellipsis f := hz₁
  refine wpAny_bind ?_
  simp only [List.zipIdx_cons, List.zipIdx_nil, List.forIn_cons, List.forIn_nil]

  refine wpAny_bind (wpAny_bind (wpAny_onRaise ?_))
  show wpAny _ _ (Builtin.SmallTypes.nextOf (.ref i1) >>= _) _ _ _
  refine wpAny_bind (RZ.nextOf_tuple_item (h1.extBut hs₁.extBut D.i1z) (hl1.extBut hs₁.extBut D.l1z) hx fun h₂ h1₂ hs₂ => wpAny_pure ?_)
  have hTO₂ : IsPair h₂ TO a b := hs₂.extBut _ _ D.TOi1 (hs₁.extBut _ _ D.TOz hTO)
  refine wpAny_bind (wpAny_seqItems hTO₂ rfl ?_)
  refine wpAny_bind (wpAny_updateSeq_pair hTO₂ fun h₃ hTO₃ hs₃ => ?_)
  replace hTO₃ : IsPair h₃ TO x b := hTO₃
  refine wpAny_bind (wpAny_letGo (wpAny_pure ?_))

  refine wpAny_bind (wpAny_bind (wpAny_onRaise ?_))
  show wpAny _ _ (Builtin.SmallTypes.nextOf (.ref i2) >>= _) _ _ _
  refine wpAny_bind (RZ.nextOf_tuple_item (((h2.extBut hs₁.extBut D.i2z).extBut hs₂.extBut D.i12.symm).extBut hs₃.extBut D.TOi2.symm)
    (((hl2.extBut hs₁.extBut D.l2z).extBut hs₂.extBut D.l2i1).extBut hs₃.extBut D.l2TO) hy fun h₄ h2₄ hs₄ => wpAny_pure ?_)
  have hTO₄ : IsPair h₄ TO x b := hs₄.extBut _ _ D.TOi2 hTO₃
  refine wpAny_bind (wpAny_seqItems hTO₄ rfl ?_)
  refine wpAny_bind (wpAny_updateSeq_pair hTO₄ fun h₅ hTO₅ hs₅ => ?_)
  replace hTO₅ : IsPair h₅ TO x y := hTO₅
  refine wpAny_bind (wpAny_letGo (wpAny_pure (wpAny_pure ?_)))

  refine wpAny_bind (wpAny_seqItems hTO₅ rfl ?_)
  refine wpAny_bind (wpAny_newTuple ?_)
  have hsz : h₅.objs.size = s.heap.objs.size := by rw [hs₅.1, hs₄.1, hs₃.1, hs₂.1, hs₁.1]
  have hz₅ : IsZipF h₅ z TI TO .ellipsis f := hs₅.extBut _ _ D.TOz.symm (hs₄.extBut _ _ D.i2z.symm (hs₃.extBut _ _ D.TOz.symm (hs₂.extBut _ _ D.i1z.symm hz₁)))
  have hk₅ : ∀ c o, c ≠ z → c ≠ TO → c ≠ i1 → c ≠ i2 → s.heap.get? c = some o → h₅.get? c = some o := fun c o c1 c2 c3 c4 e =>
    hs₅.extBut _ _ c2 (hs₄.extBut _ _ c4 (hs₃.extBut _ _ c2 (hs₂.extBut _ _ c3 (hs₁.extBut _ _ c1 e))))
  have h1₅ : h₅.IsTupleIter i1 l1 (k1 + 1) := ((h1₂.extBut hs₃.extBut D.TOi1.symm).extBut hs₄.extBut D.i12).extBut hs₅.extBut D.TOi1.symm
  have h2₅ : h₅.IsTupleIter i2 l2 (k2 + 1) := h2₄.extBut hs₅.extBut D.TOi2.symm
  have hzlt : z < h₅.objs.size := Heap.lt_size hz₅
  have hTOlt : TO < h₅.objs.size := Heap.lt_size hTO₅
  have hi1lt : i1 < h₅.objs.size := by obtain ⟨_, e, _⟩ := h1₅; exact Heap.lt_size e
  have hi2lt : i2 < h₅.objs.size := by obtain ⟨_, e, _⟩ := h2₅; exact Heap.lt_size e
  show wpAny _ _ (Builtin.SmallTypes.ownedTupleHandOut (.ref z) (.ref h₅.objs.size) >>= _) _ _ _
  refine wpAny_bind ?_
  unfold Builtin.SmallTypes.ownedTupleHandOut
  have hz₆ : IsZipF (h₅.push { cls := .type "tuple", data := .seq #[x, y] }) z TI TO .ellipsis f := Heap.get?_push_of_some _ hz₅
  refine wpAny_bind (wpAny_setField_rec hz₆ (by simp) fun h₇ hz₇ hs₇ => ?_)
  replace hz₇ : IsZipF h₇ z TI TO (rawInt h₅.objs.size) f := hz₇
  refine wpAny_setField_rec hz₇ (by simp) fun h₈ hz₈ hs₈ => ?_
  replace hz₈ : IsZipF h₈ z TI TO (rawInt h₅.objs.size) false := hz₈
  have up : ∀ c o, c ≠ z → h₅.get? c = some o → h₈.get? c = some o := fun c o c1 e => hs₈.extBut _ _ c1 (hs₇.extBut _ _ c1 (Heap.get?_push_of_some _ e))
  have hT₈ : IsPair h₈ h₅.objs.size x y := hs₈.extBut _ _ (Nat.ne_of_gt hzlt) (hs₇.extBut _ _ (Nat.ne_of_gt hzlt) (Heap.get?_push_size _ rfl))
  have hz8 : h₈.objs.size = h₅.objs.size + 1 := by rw [hs₈.1, hs₇.1, Heap.size_push]
  rw [hsz] at hz₈ hT₈ hz8
  refine wpAny_pure ⟨_, rfl, ?_⟩
  show Q (.ref h₅.objs.size) _
  rw [hsz]
  exact hQ h₈ hz₈ (up _ _ D.TOz hTO₅) (h1₅.at fun o e => up _ o D.i1z e) (h2₅.at fun o e => up _ o D.i2z e) hT₈ hz8 fun c o c1 c2 c3 c4 e => up c o c1 (hk₅ c o c1 c2 c3 c4 e)


theorem zipF_next_end {z TI TO i1 i2 l1 l2 : Addr} {k1 k2 : Nat} {xs ys : Array Value} {a b f0 : Value} {f : Bool} {Q : Fin → Shared → Prop} (hh : A.handled = none) (D : ZipApart z TI TO i1 i2 l1 l2)
    (hz : IsZipF s.heap z TI TO f0 f) (hfree : ∀ Q : Bool → Shared → Prop, Q true s → wpAny (model prog w) A (Builtin.SmallTypes.ownedTupleIsFree (.ref z)) Q E s) (hTI : IsPair s.heap TI (.ref i1) (.ref i2)) (hTO : IsPair s.heap TO a b)
    (h1 : s.heap.IsTupleIter i1 l1 k1) (h2 : s.heap.IsTupleIter i2 l2 k2) (hl1 : s.heap.IsTuple l1 xs) (hl2 : s.heap.IsTuple l2 ys) (hend : xs[k1]? = none ∨ ys[k2]? = none)
    (hE : ∀ h' e, (∀ c o, c ≠ z → c ≠ TO → c ≠ i1 → c ≠ i2 → s.heap.get? c = some o → h'.get? c = some o) → (∃ o, h'.get? e = some o ∧ o.cls = .type "StopIteration") → E (.ref e) { s with heap := h' }) :
    wpAny (model prog w) A (Builtin.«zip.__next__» ⟨[.ref z], []⟩) Q E s := by
  show wpAny _ _ (field (.ref z) 2 >>= _) _ _ _
  refine wpAny_bind (wpAny_field hz rfl (x := .bool false) rfl ?_)
  show wpAny _ _ (field (.ref z) 3 >>= _) _ _ _
  refine wpAny_bind (wpAny_field hz rfl (x := .ref TI) rfl ?_)
  refine wpAny_bind (wpAny_seqItems hTI rfl ?_)
  show wpAny _ _ (Builtin.SmallTypes.ownedTupleIsFree (.ref z) >>= _) _ _ _
  refine wpAny_bind (hfree _ ?_)
  simp only [if_true]
  refine wpAny_bind (wpAny_rule ?_)
  refine wpAny_bind (wpAny_field hz rfl (x := .ref TO) rfl ?_)
  refine wpAny_bind (wpAny_setField_rec hz (by simp) fun h₁ hz₁ hs₁ => ?_)
  replace hz₁ : IsZipF h₁ z TI TO .ellipsis f := hz₁
  refine wpAny_bind ?_
  simp only [List.zipIdx_cons, List.zipIdx_nil, List.forIn_cons, List.forIn_nil]
  refine wpAny_bind (wpAny_bind (wpAny_onRaise ?_))
  show wpAny _ _ (Builtin.SmallTypes.nextOf (.ref i1) >>= _) _ _ _
  cases hx : xs[k1]? with
  | none =>
    refine wpAny_bind (RZ.nextOf_tuple_end hh (h1.extBut hs₁.extBut D.i1z) (hl1.extBut hs₁.extBut D.l1z) hx fun h₂ e hs₂ he => ?_)
    obtain ⟨oe, hoe, hce⟩ := he
    have hz₂ : IsZipF h₂ z TI TO .ellipsis f := hs₂ _ _ D.i1z.symm hz₁
    have hez : e ≠ z := fun x => by subst x; rw [hz₂] at hoe; cases hoe; simp at hce
    refine wpAny_setField_rec hz₂ (by simp) fun h₃ _ hs₃ => hE h₃ e (fun c o c1 _ c3 _ x => hs₃.extBut _ _ c1 (hs₂ _ _ c3 (hs₁.extBut _ _ c1 x))) ⟨oe, hs₃.extBut _ _ hez hoe, hce⟩
  | some x =>
    have hy : ys[k2]? = none := by rcases hend with h | h; rw [hx] at h; cases h; exact h
    refine wpAny_bind (RZ.nextOf_tuple_item (h1.extBut hs₁.extBut D.i1z) (hl1.extBut hs₁.extBut D.l1z) hx fun h₂ h1₂ hs₂ => wpAny_pure ?_)
    have hTO₂ : IsPair h₂ TO a b := hs₂.extBut _ _ D.TOi1 (hs₁.extBut _ _ D.TOz hTO)
    refine wpAny_bind (wpAny_seqItems hTO₂ rfl ?_)
    refine wpAny_bind (wpAny_updateSeq_pair hTO₂ fun h₃ hTO₃ hs₃ => ?_)
    refine wpAny_bind (wpAny_letGo (wpAny_pure ?_))
    refine wpAny_bind (wpAny_bind (wpAny_onRaise ?_))
    show wpAny _ _ (Builtin.SmallTypes.nextOf (.ref i2) >>= _) _ _ _
    refine wpAny_bind (RZ.nextOf_tuple_end hh (((h2.extBut hs₁.extBut D.i2z).extBut hs₂.extBut D.i12.symm).extBut hs₃.extBut D.TOi2.symm)
      (((hl2.extBut hs₁.extBut D.l2z).extBut hs₂.extBut D.l2i1).extBut hs₃.extBut D.l2TO) hy fun h₄ e hs₄ he => ?_)
    obtain ⟨oe, hoe, hce⟩ := he
    have hz₄ : IsZipF h₄ z TI TO .ellipsis f := hs₄ _ _ D.i2z.symm (hs₃.extBut _ _ D.TOz.symm (hs₂.extBut _ _ D.i1z.symm hz₁))
    have hez : e ≠ z := fun x => by subst x; rw [hz₄] at hoe; cases hoe; simp at hce
    refine wpAny_setField_rec hz₄ (by simp) fun h₅ _ hs₅ => hE h₅ e (fun c o c1 c2 c3 c4 x => hs₅.extBut _ _ c1 (hs₄ _ _ c4 (hs₃.extBut _ _ c2 (hs₂.extBut _ _ c3 (hs₁.extBut _ _ c1 x))))) ⟨oe, hs₅.extBut _ _ hez hoe, hce⟩


theorem zipT_next_item_held {z TI TO T i1 i2 l1 l2 : Addr} {f : Bool} {oT : Obj} {k1 k2 : Nat} {xs ys : Array Value} {x y : Value} {Q : Value → Shared → Prop} (D : ZipApart z TI TO i1 i2 l1 l2)
    (hz : IsZipHeld s.heap z TI TO T f) (hT : s.heap.get? T = some oT) (hTI : IsPair s.heap TI (.ref i1) (.ref i2))
    (h1 : s.heap.IsTupleIter i1 l1 k1) (h2 : s.heap.IsTupleIter i2 l2 k2) (hl1 : s.heap.IsTuple l1 xs) (hl2 : s.heap.IsTuple l2 ys) (hx : xs[k1]? = some x) (hy : ys[k2]? = some y)
    (hQ : ∀ h', IsZipHeld h' z TI TO T true → h'.IsTupleIter i1 l1 (k1 + 1) → h'.IsTupleIter i2 l2 (k2 + 1) → IsPair h' s.heap.objs.size x y → h'.objs.size = s.heap.objs.size + 1 →
      (∀ c o, c ≠ z → c ≠ i1 → c ≠ i2 → s.heap.get? c = some o → h'.get? c = some o) → Q (.ref s.heap.objs.size) { s with heap := h' }) :
    wpAny (model prog w) A (Builtin.«zip.__next__» ⟨[.ref z], []⟩) (fun fin s' => ∃ v, fin = .done (.ret v) ∧ Q v s') E s := by
  show wpAny _ _ (field (.ref z) 2 >>= _) _ _ _
  refine wpAny_bind (wpAny_field hz rfl (x := .bool false) rfl ?_)
  show wpAny _ _ (field (.ref z) 3 >>= _) _ _ _
  refine wpAny_bind (wpAny_field hz rfl (x := .ref TI) rfl ?_)
  refine wpAny_bind (wpAny_seqItems hTI rfl ?_)
  show wpAny _ _ (Builtin.SmallTypes.ownedTupleIsFree (.ref z) >>= _) _ _ _
  refine wpAny_bind (wpAny_tupleHeld_zip hz hT fun h₁ hz₁ hs₁ => ?_)
  simp only [Bool.false_eq_true, if_false]
  refine wpAny_bind ?_
  rw [← Array.forIn_toList]
  simp only [List.forIn_cons, List.forIn_nil]
  refine wpAny_bind (wpAny_bind (wpAny_holding ?_))
  show wpAny _ _ (Builtin.SmallTypes.nextOf (.ref i1) >>= _) _ _ _
  refine wpAny_bind (RZ.nextOf_tuple_item (s := { s with heap := h₁ }) (h1.extBut hs₁.extBut D.i1z) (hl1.extBut hs₁.extBut D.l1z) hx fun h₂ h1₂ hs₂ => wpAny_pure ?_)
  refine wpAny_pure ?_
  refine wpAny_bind (wpAny_bind (wpAny_holding ?_))
  show wpAny _ _ (Builtin.SmallTypes.nextOf (.ref i2) >>= _) _ _ _
  refine wpAny_bind (RZ.nextOf_tuple_item (s := { s with heap := h₂ }) ((h2.extBut hs₁.extBut D.i2z).extBut hs₂.extBut D.i12.symm) ((hl2.extBut hs₁.extBut D.l2z).extBut hs₂.extBut D.l2i1) hy fun h₃ h2₃ hs₃ => wpAny_pure ?_)
  refine wpAny_pure (wpAny_pure ?_)
  show wpAny _ _ (newTuple [x, y] >>= _) _ _ _
  refine wpAny_bind (wpAny_newTuple ?_)
  have hsz : h₃.objs.size = s.heap.objs.size := by rw [hs₃.1, hs₂.1, hs₁.1]
  have hz₃ : IsZipHeld h₃ z TI TO T true := hs₃.extBut _ _ D.i2z.symm (hs₂.extBut _ _ D.i1z.symm hz₁)
  have hk : ∀ c o, c ≠ z → c ≠ i1 → c ≠ i2 → s.heap.get? c = some o → h₃.get? c = some o := fun c o c1 c2 c3 e => hs₃.extBut _ _ c3 (hs₂.extBut _ _ c2 (hs₁.extBut _ _ c1 e))
  have h1₃ : h₃.IsTupleIter i1 l1 (k1 + 1) := h1₂.extBut hs₃.extBut D.i12
  refine wpAny_pure ⟨_, rfl, ?_⟩
  show Q (.ref h₃.objs.size) _
  have hp : IsPair (h₃.push { cls := .type "tuple", data := .seq #[x, y] }) h₃.objs.size x y := Heap.get?_push_size _ rfl
  have hz4 : (h₃.push { cls := .type "tuple", data := .seq #[x, y] }).objs.size = h₃.objs.size + 1 := Heap.size_push ..
  rw [hsz] at hp hz4 ⊢
  exact hQ _ (Heap.get?_push_of_some _ hz₃) (h1₃.at fun o e => Heap.get?_push_of_some _ e) (h2₃.at fun o e => Heap.get?_push_of_some _ e) hp hz4 fun c o c1 c2 c3 e => Heap.get?_push_of_some _ (hk c o c1 c2 c3 e)


theorem zipT_next_end_held {z TI TO T i1 i2 l1 l2 : Addr} {f : Bool} {oT : Obj} {k1 k2 : Nat} {xs ys : Array Value} {Q : Fin → Shared → Prop} (hh : A.handled = none) (D : ZipApart z TI TO i1 i2 l1 l2)
    (hz : IsZipHeld s.heap z TI TO T f) (hT : s.heap.get? T = some oT) (hTI : IsPair s.heap TI (.ref i1) (.ref i2))
    (h1 : s.heap.IsTupleIter i1 l1 k1) (h2 : s.heap.IsTupleIter i2 l2 k2) (hl1 : s.heap.IsTuple l1 xs) (hl2 : s.heap.IsTuple l2 ys) (hend : xs[k1]? = none ∨ ys[k2]? = none)
    (hE : ∀ h' e, (∀ c o, c ≠ z → c ≠ i1 → c ≠ i2 → s.heap.get? c = some o → h'.get? c = some o) → (∃ o, h'.get? e = some o ∧ o.cls = .type "StopIteration") → E (.ref e) { s with heap := h' }) :
    wpAny (model prog w) A (Builtin.«zip.__next__» ⟨[.ref z], []⟩) Q E s := by
  show wpAny _ _ (field (.ref z) 2 >>= _) _ _ _
  refine wpAny_bind (wpAny_field hz rfl (x := .bool false) rfl ?_)
  show wpAny _ _ (field (.ref z) 3 >>= _) _ _ _
  refine wpAny_bind (wpAny_field hz rfl (x := .ref TI) rfl ?_)
  refine wpAny_bind (wpAny_seqItems hTI rfl ?_)
  show wpAny _ _ (Builtin.SmallTypes.ownedTupleIsFree (.ref z) >>= _) _ _ _
  refine wpAny_bind (wpAny_tupleHeld_zip hz hT fun h₁ hz₁ hs₁ => ?_)
  simp only [Bool.false_eq_true, if_false]
  refine wpAny_bind ?_
  rw [← Array.forIn_toList]
  simp only [List.forIn_cons, List.forIn_nil]
  refine wpAny_bind (wpAny_bind (wpAny_holding ?_))
  show wpAny _ _ (Builtin.SmallTypes.nextOf (.ref i1) >>= _) _ _ _
  cases hx : xs[k1]? with
  | none =>
    refine wpAny_bind (RZ.nextOf_tuple_end (s := { s with heap := h₁ }) hh (h1.extBut hs₁.extBut D.i1z) (hl1.extBut hs₁.extBut D.l1z) hx fun h₂ e hs₂ he => ?_)
    exact hE h₂ e (fun c o c1 c2 _ x => hs₂ _ _ c2 (hs₁.extBut _ _ c1 x)) he
  | some x =>
    have hy : ys[k2]? = none := by rcases hend with h | h; rw [hx] at h; cases h; exact h
    refine wpAny_bind (RZ.nextOf_tuple_item (s := { s with heap := h₁ }) (h1.extBut hs₁.extBut D.i1z) (hl1.extBut hs₁.extBut D.l1z) hx fun h₂ h1₂ hs₂ => wpAny_pure ?_)
    refine wpAny_pure ?_
    refine wpAny_bind (wpAny_bind (wpAny_holding ?_))
    show wpAny _ _ (Builtin.SmallTypes.nextOf (.ref i2) >>= _) _ _ _
    refine wpAny_bind (RZ.nextOf_tuple_end (s := { s with heap := h₂ }) hh ((h2.extBut hs₁.extBut D.i2z).extBut hs₂.extBut D.i12.symm) ((hl2.extBut hs₁.extBut D.l2z).extBut hs₂.extBut D.l2i1) hy fun h₃ e hs₃ he => ?_)
    exact hE h₃ e (fun c o c1 c2 c3 x => hs₃ _ _ c3 (hs₂.extBut _ _ c2 (hs₁.extBut _ _ c1 x))) he


def ZipE (h : Heap) (z TI TO i1 i2 a b : Addr) (i : Nat) : Prop := ∃ (f0 : Value) (f : Bool) (x y : Value), (f0 = .none ∨ ∃ T : Addr, f0 = rawInt T) ∧ IsZipF h z TI TO f0 f ∧ IsPair h TI (.ref i1) (.ref i2) ∧ IsPair h TO x y ∧ h.IsTupleIter i1 a i ∧ h.IsTupleIter i2 b i
theorem free_none {z TI TO : Addr} {f : Bool} (hz : IsZipF s.heap z TI TO .none f) : ∀ Q : Bool → Shared → Prop, Q true s → wpAny (model prog w) A (Builtin.SmallTypes.ownedTupleIsFree (.ref z)) Q E s := fun Q h => by
  unfold Builtin.SmallTypes.ownedTupleIsFree
  exact wpAny_bind (wpAny_field hz rfl (x := .none) rfl (wpAny_pure h))
theorem gone {a : Addr} {Q : Option Obj → Shared → Prop} (ho : s.heap.get? a = none) (h : Q none s) : wpAny (model prog w) A (loadIfAlive a) Q E s := by
  have h' : Q (s.heap.get? a) s := by rw [ho]; exact h
  exact fun _ _ _ => h'
theorem free_dead {z TI TO T : Addr} {f : Bool} (hz : IsZipF s.heap z TI TO (rawInt T) f) (hT : s.heap.get? T = none) : ∀ Q : Bool → Shared → Prop, Q true s → wpAny (model prog w) A (Builtin.SmallTypes.ownedTupleIsFree (.ref z)) Q E s := fun Q h => by
  unfold Builtin.SmallTypes.ownedTupleIsFree
  refine wpAny_bind (wpAny_field hz rfl (x := rawInt T) rfl ?_)
  show wpAny _ _ (loadIfAlive ((T : Int).toNat) >>= _) _ _ _
  rw [Int.toNat_natCast]
  refine wpAny_bind (gone hT ?_)
  simp only [Option.isNone_none, if_true]
  exact wpAny_pure h
theorem zipE_item {z TI TO i1 i2 a b : Addr} {i : Nat} {xs ys : Array Value} {x y : Value} {Q : Value → Shared → Prop} (D : ZipApart z TI TO i1 i2 a b) (st : ZipE s.heap z TI TO i1 i2 a b i)
    (hl1 : s.heap.IsTuple a xs) (hl2 : s.heap.IsTuple b ys) (hx : xs[i]? = some x) (hy : ys[i]? = some y)
    (hQ : ∀ h', ZipE h' z TI TO i1 i2 a b (i + 1) → IsPair h' s.heap.objs.size x y → h'.objs.size = s.heap.objs.size + 1 → (∀ c o, c ≠ z → c ≠ TO → c ≠ i1 → c ≠ i2 → s.heap.get? c = some o → h'.get? c = some o) → Q (.ref s.heap.objs.size) { s with heap := h' }) :
    wpAny (model prog w) A (Builtin.SmallTypes.nextOf (.ref z)) Q E s := by
  obtain ⟨f0, f, x0, y0, hf, hz, hTI, hTO, h1, h2⟩ := st
  have hT : s.TypeIs (.ref z) "zip" := ⟨_, hz, rfl⟩
  unfold Builtin.SmallTypes.nextOf
  have fin : ∀ h', ZipE h' z TI TO i1 i2 a b (i + 1) → IsPair h' s.heap.objs.size x y → h'.objs.size = s.heap.objs.size + 1 → (∀ c o, c ≠ z → c ≠ TO → c ≠ i1 → c ≠ i2 → s.heap.get? c = some o → h'.get? c = some o) →
      wpAny (model prog w) A (pure (Value.ref s.heap.objs.size) : Sem Value) Q E { s with heap := h' } := fun h' a1 a2 a3 a4 => wpAny_pure (hQ h' a1 a2 a3 a4)
  have free : ∀ {f0 : Value}, IsZipF s.heap z TI TO f0 f → (∀ Q : Bool → Shared → Prop, Q true s → wpAny (model prog w) A.in1 (Builtin.SmallTypes.ownedTupleIsFree (.ref z)) Q E s) → 
      wpAny (model prog w) A.in1 (Builtin.«zip.__next__» ⟨[.ref z], []⟩) (fun fin s' => ∃ v, fin = .done (.ret v) ∧ wpAny (model prog w) A (pure v : Sem Value) Q E s') E s := fun {f0} hz hfree =>
    zipF_next_item (f := f) D hz hfree hTI hTO h1 h2 hl1 hl2 hx hy fun h' a1 a2 a3 a4 a5 a6 a7 => fin h' ⟨_, _, _, _, .inr ⟨_, rfl⟩, a1, a7 _ _ D.TIz D.TITO D.TIi1 D.TIi2 hTI, a2, a3, a4⟩ a5 a6 a7
  refine wpAny_bind (wpAny_callSpecial?_slot (name := Str.ofString "__next__") hT F.slot_zip_next (wpAny_call_entry F.slot_zip_next hT F.entry_zip_next ?_ (F.args_zip_next_1 _)))
  rcases hf with rfl | ⟨T, rfl⟩
  · exact free hz (free_none hz)
  · cases hg : s.heap.get? T with
    | none => exact free hz (free_dead hz hg)
    | some oT =>
      exact zipT_next_item_held D hz hg hTI h1 h2 hl1 hl2 hx hy fun h' a1 a3 a4 a5 a6 a7 => fin h' ⟨_, _, _, _, .inr ⟨_, rfl⟩, a1, a7 _ _ D.TIz D.TIi1 D.TIi2 hTI, a7 _ _ D.TOz D.TOi1 D.TOi2 hTO, a3, a4⟩ a5 a6 fun c o c1 _ c3 c4 e => a7 c o c1 c3 c4 e
theorem zipE_end {z TI TO i1 i2 a b : Addr} {i : Nat} {xs ys : Array Value} {Q : Value → Shared → Prop} (hh : A.handled = none) (D : ZipApart z TI TO i1 i2 a b) (st : ZipE s.heap z TI TO i1 i2 a b i)
    (hl1 : s.heap.IsTuple a xs) (hl2 : s.heap.IsTuple b ys) (hend : xs[i]? = none ∨ ys[i]? = none)
    (hE : ∀ h' e, (∀ c o, c ≠ z → c ≠ TO → c ≠ i1 → c ≠ i2 → s.heap.get? c = some o → h'.get? c = some o) → (∃ o, h'.get? e = some o ∧ o.cls = .type "StopIteration") → E (.ref e) { s with heap := h' }) :
    wpAny (model prog w) A (Builtin.SmallTypes.nextOf (.ref z)) Q E s := by
  obtain ⟨f0, f, x0, y0, hf, hz, hTI, hTO, h1, h2⟩ := st
  have hT : s.TypeIs (.ref z) "zip" := ⟨_, hz, rfl⟩
  unfold Builtin.SmallTypes.nextOf
  refine wpAny_bind (wpAny_callSpecial?_slot (name := Str.ofString "__next__") hT F.slot_zip_next (wpAny_call_entry F.slot_zip_next hT F.entry_zip_next ?_ (F.args_zip_next_1 _)))
  rcases hf with rfl | ⟨T, rfl⟩
  · exact zipF_next_end (A := A.in1) hh D hz (free_none hz) hTI hTO h1 h2 hl1 hl2 hend hE
  · cases hg : s.heap.get? T with
    | none => exact zipF_next_end (A := A.in1) hh D hz (free_dead hz hg) hTI hTO h1 h2 hl1 hl2 hend hE
    | some oT => exact zipT_next_end_held (A := A.in1) hh D hz hg hTI h1 h2 hl1 hl2 hend fun h' e k q => hE h' e (fun c o c1 _ c3 c4 x => k c o c1 c3 c4 x) q
/-- a turn of enumerate(it), where it's own turn lays one thing anew -/
theorem enumZ_next {e it : Addr} {ch : List Addr} {i : Nat} {old : Value} {P : Heap → Prop} {Q : Value → Shared → Prop} (he : IsEnum s.heap e it i old) (hne : e ∉ ch)
    (nxt : ∀ (Q : Value → Shared → Prop), (∀ h₁, P h₁ → h₁.objs.size = s.heap.objs.size + 1 → (∀ c o, c ∉ ch → s.heap.get? c = some o → h₁.get? c = some o) → Q (.ref s.heap.objs.size) { s with heap := h₁ }) → wpAny (model prog w) A (Builtin.SmallTypes.nextOf (.ref it)) Q E s)
    (hQ : ∀ h₁ h' tk, P h₁ → h₁.objs.size = s.heap.objs.size + 1 → (∀ c o, c ∉ ch → s.heap.get? c = some o → h₁.get? c = some o) → (∀ c o, c ≠ e → h₁.get? c = some o → h'.get? c = some o) →
      IsEnumOut h' e it ((i : Int) + 1) (.ref s.heap.objs.size) (s.heap.objs.size + 1) → h'.get? (s.heap.objs.size + 1) = some { cls := .type "tuple", data := .seq #[.int i tk, .ref s.heap.objs.size] } → Q (.ref (s.heap.objs.size + 1)) { s with heap := h', toks := tk + 1 }) :
    wpAny (model prog w) A (Builtin.«enumerate.__next__» ⟨[.ref e], []⟩) (fun fin s' => ∃ v, fin = .done (.ret v) ∧ Q v s') E s := by
  obtain ⟨hp, g, d, tk, os⟩ := s
  show wpAny _ _ (field (.ref e) 2 >>= _) _ _ _
  refine wpAny_bind (wpAny_field he rfl (x := .ref it) rfl ?_)
  refine wpAny_bind (nxt _ fun h₁ hP hs1 hk1 => ?_)
  have he₁ : IsEnum h₁ e it i old := hk1 _ _ hne he
  have hel : e < hp.objs.size := Heap.lt_size he
  show wpAny _ _ (field (.ref e) 3 >>= _) _ _ ⟨h₁, g, d, tk, os⟩
  refine wpAny_bind (wpAny_field he₁ rfl (x := rawInt i) rfl ?_)
  show wpAny _ _ (field (.ref e) 4 >>= _) _ _ ⟨h₁, g, d, tk, os⟩
  refine wpAny_bind (wpAny_field he₁ rfl (x := .none) rfl ?_)
  show wpAny _ _ (mkInt i >>= _) _ _ ⟨h₁, g, d, tk, os⟩
  refine wpAny_bind (wpAny_mkInt ?_)
  show wpAny _ _ (setField (.ref e) 3 (rawInt ((i : Int) + 1)) >>= _) _ _ ⟨h₁, g, d, tk + 1, os⟩
  refine wpAny_bind (wpAny_setField_rec he₁ (by simp) fun h₂ he₂ hs₂ => ?_)
  replace hs₂ : Heap.SameBut e h₁ h₂ := hs₂
  replace he₂ : IsEnum h₂ e it ((i : Int) + 1) old := he₂
  show wpAny _ _ (setField (.ref e) 4 .none >>= _) _ _ ⟨h₂, g, d, tk + 1, os⟩
  refine wpAny_bind (wpAny_setField_rec he₂ (by simp) fun h₃ he₃ hs₃ => ?_)
  replace hs₃ : Heap.SameBut e h₂ h₃ := hs₃
  replace he₃ : IsEnum h₃ e it ((i : Int) + 1) old := he₃
  have k3 : ∀ c o, c ≠ e → h₁.get? c = some o → h₃.get? c = some o := fun c o z q => hs₃.extBut c o z (hs₂.extBut c o z q)
  have z3 : h₃.objs.size = hp.objs.size + 1 := by rw [hs₃.1, hs₂.1]; exact hs1
  clear he₁ he₂ hs₂ hs₃
  show wpAny _ _ (newTuple [.int i tk, .ref hp.objs.size] >>= _) _ _ ⟨h₃, g, d, tk + 1, os⟩
  refine wpAny_bind (wpAny_newTuple ?_)
  have he₄ : IsEnum (h₃.push { cls := .type "tuple", data := .seq #[.int i tk, .ref hp.objs.size] }) e it ((i : Int) + 1) old := Heap.get?_push_of_some _ he₃
  have ht₄ : (h₃.push { cls := .type "tuple", data := .seq #[.int i tk, .ref hp.objs.size] }).get? (hp.objs.size + 1) = some { cls := .type "tuple", data := .seq #[.int i tk, .ref hp.objs.size] } := by rw [← z3]; exact Heap.get?_push_size _ rfl
  have k4 : ∀ c o, c ≠ e → h₁.get? c = some o → (h₃.push { cls := .type "tuple", data := .seq #[.int i tk, .ref hp.objs.size] }).get? c = some o := fun c o z q => Heap.get?_push_of_some _ (k3 c o z q)
  show wpAny _ _ (Builtin.SmallTypes.ownedTupleIsFree (.ref e) >>= _) _ _ ⟨h₃.push { cls := .type "tuple", data := .seq #[.int i tk, .ref hp.objs.size] }, g, d, tk + 1, os⟩
  rw [z3]
  revert he₄ ht₄ k4
  generalize h₃.push { cls := .type "tuple", data := .seq #[.int i tk, .ref hp.objs.size] } = h₄
  intro he₄ ht₄ k4
  clear he₃ k3 z3 h₃ h₂
  refine wpAny_bind ?_
  unfold Builtin.SmallTypes.ownedTupleIsFree
  refine wpAny_bind (wpAny_field he₄ rfl (x := .none) rfl (wpAny_pure ?_))
  simp only [if_true]
  refine wpAny_bind (wpAny_rule ?_)
  refine wpAny_bind (wpAny_field he₄ rfl (x := old) rfl ?_)
  refine wpAny_bind (wpAny_setField_rec he₄ (by simp) fun h₅ he₅ hs₅ => ?_)
  replace hs₅ : Heap.SameBut e h₄ h₅ := hs₅
  replace he₅ : IsEnum h₅ e it ((i : Int) + 1) (.ref hp.objs.size) := he₅
  show wpAny _ _ (Builtin.SmallTypes.ownedTupleHandOut (.ref e) (.ref (hp.objs.size + 1)) >>= _) _ _ ⟨h₅, g, d, tk + 1, os⟩
  refine wpAny_bind ?_
  unfold Builtin.SmallTypes.ownedTupleHandOut
  refine wpAny_bind (wpAny_setField_rec he₅ (by simp) fun h₆ he₆ hs₆ => ?_)
  replace hs₆ : Heap.SameBut e h₅ h₆ := hs₆
  replace he₆ : IsEnumOut h₆ e it ((i : Int) + 1) (.ref hp.objs.size) (hp.objs.size + 1) := he₆
  refine wpAny_setField_rec he₆ (by simp) fun h₇ he₇ hs₇ => ?_
  replace hs₇ : Heap.SameBut e h₆ h₇ := hs₇
  replace he₇ : IsEnumOut h₇ e it ((i : Int) + 1) (.ref hp.objs.size) (hp.objs.size + 1) := he₇
  have k7 : ∀ c o, c ≠ e → h₄.get? c = some o → h₇.get? c = some o := fun c o z q => hs₇.extBut c o z (hs₆.extBut c o z (hs₅.extBut c o z q))
  exact wpAny_bind (wpAny_letGo (wpAny_pure ⟨_, rfl, hQ h₁ h₇ tk hP hs1 hk1 (fun c o z q => k7 c o z (k4 c o z q)) he₇ (k7 _ _ (Nat.ne_of_gt (Nat.lt_succ_of_lt hel)) ht₄)⟩))
end
/-- the tuples at a and b, the items in new pairs, these by their places in new pairs -/
def ItzE (K : PySem.W.Frag) (a b : Addr) : It :=
  ⟨fun i H => ∃ (xs ys : List V) (x y : V), SqT K H a xs ∧ SqT K H b ys ∧ xs[i]? = some x ∧ ys[i]? = some y,
    fun i H v H' => ∃ T T1 x y, v = .ref T ∧ H T1 = none ∧ upd H T1 (.tup [x, y]) T = none ∧ H' = upd (upd H T1 (.tup [x, y])) T (.tup [.int (i : Nat), .ref T1]) ∧ (∀ xs, SqT K H a xs → xs[i]? = some x) ∧ ∀ ys, SqT K H b ys → ys[i]? = some y,
    fun i H => ∃ xs ys : List V, SqT K H a xs ∧ SqT K H b ys ∧ (xs.length ≤ i ∨ ys.length ≤ i)⟩
theorem turn_ezip {P : Program} {w : World} {K : PySem.W.Frag} {elts : List Expr} {kk : Nat} {tpos : Pos} {a b e z TI TO i1 i2 : Addr} (D : ZipApart z TI TO i1 i2 a b) (hen : e ∉ [z, TI, TO, i1, i2]) :
    Turn P w K (.Tuple elts kk tpos) (ItzE K a b) [e, z, TI, TO, i1, i2] e (fun i h => (∃ old, IsEnum h e z ((i : Nat) : Int) old) ∧ ZipE h z TI TO i1 i2 a b i) where
  mem := by simp
  obj := fun i h st c hc => by
    obtain ⟨⟨old, he⟩, f0, f, x, y, hf, hz, hTI, hTO, ⟨o1, e1, _, d1⟩, ⟨o2, e2, _, d2⟩⟩ := st
    have e' : c = e ∨ c = z ∨ c = TI ∨ c = TO ∨ c = i1 ∨ c = i2 := by simpa using hc
    rcases e' with q | q | q | q | q | q
    · rw [q]; exact ⟨_, he, fun v q => nomatch q⟩
    · rw [q]; exact ⟨_, hz, fun v q => nomatch q⟩
    · rw [q]; exact ⟨_, hTI, fun v q => nomatch q⟩
    · rw [q]; exact ⟨_, hTO, fun v q => nomatch q⟩
    · rw [q]; exact ⟨o1, e1, fun v q => by rw [d1] at q; cases q⟩
    · rw [q]; exact ⟨o2, e2, fun v q => by rw [d2] at q; cases q⟩
  keep := fun i h h' st k => by
    obtain ⟨⟨old, he⟩, f0, f, x, y, hf, hz, hTI, hTO, h1, h2⟩ := st
    exact ⟨⟨old, k e (by simp) _ he⟩, f0, f, x, y, hf, k z (by simp) _ hz, k TI (by simp) _ hTI, k TO (by simp) _ hTO, h1.at fun o q => k i1 (by simp) o q, h2.at fun o q => k i2 (by simp) o q⟩
  item := by
    intro X hP hw hK hc i pins s σ H E I hf st hg
    subst hP hw hK
    obtain ⟨⟨old, he⟩, hZ⟩ := st
    obtain ⟨xs, ys, x, y, hqx, hqy, hx, hy⟩ := hg
    obtain ⟨its, rv, p, _⟩ := I.tuple hqx
    obtain ⟨its2, rv2, p2, _⟩ := I.tuple hqy
    obtain ⟨u, hu, ru⟩ := rv.get hx
    obtain ⟨u2, hu2, ru2⟩ := rv2.get hy
    have hel : e < s.heap.objs.size := Heap.lt_size he
    have hT : s.TypeIs (.ref e) "enumerate" := ⟨_, he, rfl⟩
    have hltc : ∀ c, c ∈ [e, z, TI, TO, i1, i2] → c < s.heap.objs.size := fun c hc => by
      obtain ⟨f0, f, x0, y0, hf0, hz, hTI, hTO, ⟨o1, e1, _⟩, ⟨o2, e2, _⟩⟩ := hZ
      have e' : c = e ∨ c = z ∨ c = TI ∨ c = TO ∨ c = i1 ∨ c = i2 := by simpa using hc
      rcases e' with q | q | q | q | q | q <;> rw [q]
      · exact hel
      · exact Heap.lt_size hz
      · exact Heap.lt_size hTI
      · exact Heap.lt_size hTO
      · exact Heap.lt_size e1
      · exact Heap.lt_size e2
    unfold pyNext
    refine wpAny_bind (wpAny_attempt (wpAny_callSpecial?_slot (name := Str.ofString "__next__") hT F.slot_enumerate_next
      (wpAny_call_entry F.slot_enumerate_next hT F.entry_enumerate_next
        (enumZ_next (A := X.A.in1) (P := fun h₁ => ZipE h₁ z TI TO i1 i2 a b (i + 1) ∧ IsPair h₁ s.heap.objs.size u u2) he (ch := [z, TO, i1, i2]) (fun q => hen (by
          have : e = z ∨ e = TO ∨ e = i1 ∨ e = i2 := by simpa using q
          rcases this with q | q | q | q <;> simp [q]))
          (fun Q hQ => zipE_item D hZ (show s.heap.IsTuple a its.toArray from p) (show s.heap.IsTuple b its2.toArray from p2) (by simpa using hu) (by simpa using hu2) fun h' a1 a2 a3 a4 => hQ h' ⟨a1, a2⟩ a3 fun c o hc q => a4 c o (fun z => hc (by simp [z])) (fun z => hc (by simp [z])) (fun z => hc (by simp [z])) (fun z => hc (by simp [z])) q)
          fun h₁ h' tk hP hs1 hk1 hk2 ho hTt => wpAny_pure ?_) (F.args_enumerate_next_1 _))))
    obtain ⟨hZ1, hp1⟩ := hP
    refine ⟨_, rfl, wpAny_letOwnedTupleGo_enum (s := { s with heap := h', toks := tk + 1 }) ho fun h'' he' sb => ?_⟩
    have new1 : ObjOk X.prog X.w (upd H s.heap.objs.size (.tup [x, y])) h₁ s.heap.objs.size (.tup [x, y]) :=
      ⟨by show 2 ≤ sizeLine; decide, [u, u2], .cons ru (.cons ru2 .nil), ⟨_, hp1, rfl, _, rfl⟩⟩
    have hf1 : ∀ c ∈ [z, TO, i1, i2], FpOk X pins H c := fun c hc => hf c (by
      have : c = z ∨ c = TO ∨ c = i1 ∨ c = i2 := by simpa using hc
      rcases this with q | q | q | q <;> simp [q])
    have I1 : Inv X pins σ (upd H s.heap.objs.size (.tup [x, y])) { s with heap := h₁, toks := s.toks } := I.turnedNew (ch := [z, TO, i1, i2]) hk1 hf1 (Nat.le_refl _) new1
    have hn : ∀ c, c ∈ [e, z, TI, TO, i1, i2] → upd H s.heap.objs.size (.tup [x, y]) c = none := fun c hc => by
      rw [upd_ne (Nat.ne_of_lt (hltc c hc))]; exact (hf c hc).1
    have kk : ∀ c o, c ∉ [e] → h₁.get? c = some o → h''.get? c = some o := fun c o hc q => (sb.2 c (fun z => hc (by simp [z]))).trans (hk2 c o (fun z => hc (by simp [z])) q)
    have hTt2 : h''.get? (s.heap.objs.size + 1) = some { cls := .type "tuple", data := .seq #[.int i tk, .ref s.heap.objs.size] } := (sb.2 _ (Nat.ne_of_gt (Nat.lt_succ_of_lt hel))).trans hTt
    have hle : h₁.objs.size ≤ s.heap.objs.size + 1 := Nat.le_of_eq hs1
    have new2 : ObjOk X.prog X.w (upd (upd H s.heap.objs.size (.tup [x, y])) (s.heap.objs.size + 1) (.tup [.int (i : Nat), .ref s.heap.objs.size])) h'' (s.heap.objs.size + 1) (.tup [.int (i : Nat), .ref s.heap.objs.size]) :=
      ⟨by show 2 ≤ sizeLine; decide, [.int i tk, .ref s.heap.objs.size], .cons ⟨_, rfl⟩ (.cons rfl .nil), ⟨_, hTt2, rfl, _, rfl⟩⟩
    have I2 : Inv X pins σ (upd (upd H s.heap.objs.size (.tup [x, y])) (s.heap.objs.size + 1) (.tup [.int (i : Nat), .ref s.heap.objs.size])) { s with heap := h'', toks := tk + 1 } :=
      I1.turnedNew (s := { s with heap := h₁, toks := s.toks }) (ch := [e]) kk (fun c hc => by
        obtain rfl : c = e := by simpa using hc
        exact ⟨hn c (by simp), (hf c (by simp)).2⟩) hle new2
    refine ⟨.ref (s.heap.objs.size + 1), _, I2, rfl, ⟨_, s.heap.objs.size, x, y, rfl, I.hok.fresh (Nat.le_refl _), I1.hok.fresh hle, rfl, fun l hl => by rw [I.tuple_inj hl hqx]; exact hx, fun l hl => by rw [I.tuple_inj hl hqy]; exact hy⟩, ⟨⟨.ref s.heap.objs.size, ?_⟩, ?_⟩, fun c hc => ?_⟩
    · have e1 : ((i + 1 : Nat) : Int) = (i : Int) + 1 := by omega
      rw [e1]; exact he'
    · obtain ⟨f0, f, x0, y0, hf0, hz, hTI, hTO, h1, h2⟩ := hZ1
      have ne : ∀ c, c ∈ [z, TI, TO, i1, i2] → c ∉ [e] := fun c hc q => hen (by
        obtain rfl : c = e := by simpa using q
        exact hc)
      exact ⟨f0, f, x0, y0, hf0, kk _ _ (ne z (by simp)) hz, kk _ _ (ne TI (by simp)) hTI, kk _ _ (ne TO (by simp)) hTO, h1.at fun o q => kk _ o (ne i1 (by simp)) q, h2.at fun o q => kk _ o (ne i2 (by simp)) q⟩
    · rw [upd_ne (Nat.ne_of_lt (Nat.lt_succ_of_lt (hltc c hc)))]; exact hn c hc
  done := by
    intro X hP hw hK hc i pins s σ H E I hf st hg
    subst hP hw hK
    obtain ⟨⟨old, he⟩, hZ⟩ := st
    obtain ⟨xs, ys, hqx, hqy, hend⟩ := hg
    obtain ⟨its, rv, p, _⟩ := I.tuple hqx
    obtain ⟨its2, rv2, p2, _⟩ := I.tuple hqy
    have l1 := rv.length
    have l2 := rv2.length
    have hE : its.toArray[i]? = none ∨ its2.toArray[i]? = none := by
      rcases hend with q | q
      · exact .inl (by simp; omega)
      · exact .inr (by simp; omega)
    unfold pyNext
    have hT : s.TypeIs (.ref e) "enumerate" := ⟨_, he, rfl⟩
    refine wpAny_bind (wpAny_attempt (wpAny_callSpecial?_slot (name := Str.ofString "__next__") hT F.slot_enumerate_next
      (wpAny_call_entry F.slot_enumerate_next hT F.entry_enumerate_next ?_ (F.args_enumerate_next_1 _))))
    show wpAny _ _ (field (.ref e) 2 >>= _) _ _ _
    refine wpAny_bind (wpAny_field he rfl (x := .ref z) rfl ?_)
    refine wpAny_bind (zipE_end (A := X.A.in1) (I.ok.hd hc) D hZ (show s.heap.IsTuple a its.toArray from p) (show s.heap.IsTuple b its2.toArray from p2) hE fun h' x eb hx' => ?_)
    obtain ⟨o, ho, hc'⟩ := hx'
    refine wpAny_bind (wpAny_isInstance (T := "StopIteration") (b := true) ⟨o, ho, hc'⟩ isSubtype_stop ?_)
    exact wpAny_pure ⟨rfl, I.turnedL (t' := s.toks) (ch := [e, z, TI, TO, i1, i2]) (fun c o hb q => eb c o (fun z => hb (by simp [z])) (fun z => hb (by simp [z])) (fun z => hb (by simp [z])) (fun z => hb (by simp [z])) q) hf⟩
  self := fun A i s Q E st h => let ⟨⟨_, he⟩, _⟩ := st; wpAny_pyIter_enum he h
end DL

set_option Elab.async false
set_option linter.all false
set_option maxRecDepth 100000
namespace DL
open PySem PySem.Spec PyProof.Rows L2
open PySem.Sem (wp)
set_option maxHeartbeats 1000000 in
theorem meets_enumerate_newT (l : Addr) (items : Array Value) :
    Meets (Builtin.«enumerate.__new__» ⟨[.type "enumerate", .ref l], []⟩) (fun _ R s => s.heap.IsTuple l items ∧
      R (.ok (.ret (.ref (s.heap.push { cls := .type "tuple_iterator", data := .fields #[.ref l, .int 0 0] }).objs.size)))
        { s with heap := (s.heap.push { cls := .type "tuple_iterator", data := .fields #[.ref l, .int 0 0] }).push { cls := .type "enumerate", data := .fields #[.none, .bool false, .ref s.heap.objs.size, rawInt 0, .none, .none] } }) :=
  .of_wp fun prog w A R s h => by
    obtain ⟨hp, g, d, tk, os⟩ := s; obtain ⟨hl, h⟩ := h
    have hsub := sub_enumerate
    have hL : Heap.IsTuple (Shared.heap ⟨hp, g, d, tk, os⟩) l items := hl
    have q1 : ∀ {A' : Around} {E : Value → Shared → Prop} {Q : Value → Shared → Prop}, Q (.ref hp.objs.size) ⟨hp.push { cls := .type "tuple_iterator", data := .fields #[.ref l, .int 0 0] }, g, d, tk, os⟩ → wpAny (model prog w) A' (pyIter (.ref l)) Q E ⟨hp, g, d, tk, os⟩ :=
      fun q => wpAny_pyIter_tuple hL q
    wp_walk using q1
    refine wpAny_stack_any fun st => wpAny_pure ?_
    split
    · rename_i c _ _ _ _ _
      cases (c == Value.type "enumerate")
      · wp_walk using q1
        exact ⟨_, rfl, h⟩
      · wp_walk using q1
        exact ⟨_, rfl, h⟩
    · wp_walk using q1
      exact ⟨_, rfl, h⟩
set_option maxHeartbeats 1000000 in
theorem meets_enumerate_newZ (z TI TO : Addr) :
    Meets (Builtin.«enumerate.__new__» ⟨[.type "enumerate", .ref z], []⟩) (fun _ R s => IsZip s.heap z TI TO .none ∧
      R (.ok (.ret (.ref s.heap.objs.size))) { s with heap := s.heap.push { cls := .type "enumerate", data := .fields #[.none, .bool false, .ref z, rawInt 0, .none, .none] } }) :=
  .of_wp fun prog w A R s h => by
    obtain ⟨hp, g, d, tk, os⟩ := s; obtain ⟨hz, h⟩ := h
    have hsub := sub_enumerate
    have hL : IsZip (Shared.heap ⟨hp, g, d, tk, os⟩) z TI TO .none := hz
    have q1 : ∀ {A' : Around} {E : Value → Shared → Prop} {Q : Value → Shared → Prop}, Q (.ref z) ⟨hp, g, d, tk, os⟩ → wpAny (model prog w) A' (pyIter (.ref z)) Q E ⟨hp, g, d, tk, os⟩ :=
      fun q => wpAny_pyIter_zip hL q
    wp_walk using q1
    refine wpAny_stack_any fun st => wpAny_pure ?_
    split
    · rename_i c _ _ _ _ _
      cases (c == Value.type "enumerate")
      · wp_walk using q1
        exact ⟨_, rfl, h⟩
      · wp_walk using q1
        exact ⟨_, rfl, h⟩
    · wp_walk using q1
      exact ⟨_, rfl, h⟩
section
variable {prog : Program} {w : World} {A : Around} {E : Value → Shared → Prop} {s : Shared}
theorem call_enumT {l : Addr} {items : Array Value} {Q : Value → Shared → Prop} (hL : s.heap.IsTuple l items)
    (h : ∀ h', IsEnum h' (s.heap.objs.size + 1) s.heap.objs.size 0 .none → h'.IsTupleIter s.heap.objs.size l 0 → (∀ b o, s.heap.get? b = some o → h'.get? b = some o) → Q (.ref (s.heap.objs.size + 1)) { s with heap := h' }) :
    wpAny (model prog w) A (call (.type "enumerate") [.ref l]) Q E s := by
  refine callType_new F.called_enumerate (by decide) (F.typeCall_enumerate_1 _) (F.newCall_enumerate_1 _) (fun obj => F.args_object_init_2 obj _) F.entry_enumerate_new
    (meets_enumerate_newT l items) ⟨hL, ?_⟩
  have hz : (s.heap.push { cls := .type "tuple_iterator", data := .fields #[.ref l, .int 0 0] }).objs.size = s.heap.objs.size + 1 := Heap.size_push ..
  show _ ∧ _
  rw [hz]
  have he : IsEnum ((s.heap.push { cls := .type "tuple_iterator", data := .fields #[.ref l, .int 0 0] }).push
      { cls := .type "enumerate", data := .fields #[.none, .bool false, .ref s.heap.objs.size, rawInt 0, .none, .none] }) (s.heap.objs.size + 1) s.heap.objs.size 0 .none := by
    have := Heap.get?_push_size (s.heap.push { cls := .type "tuple_iterator", data := .fields #[.ref l, .int 0 0] })
      (o := { cls := .type "enumerate", data := .fields #[.none, .bool false, .ref s.heap.objs.size, rawInt 0, .none, .none] }) rfl
    rw [hz] at this; exact this
  exact ⟨⟨_, he, rfl⟩, h _ he ⟨_, Heap.get?_push_of_some _ (Heap.get?_push_size _ rfl), rfl, rfl⟩ fun b o x => Heap.get?_push_of_some _ (Heap.get?_push_of_some _ x)⟩
theorem call_enumZ {z TI TO : Addr} {Q : Value → Shared → Prop} (hz : IsZip s.heap z TI TO .none)
    (h : ∀ h', IsEnum h' s.heap.objs.size z 0 .none → (∀ b o, s.heap.get? b = some o → h'.get? b = some o) → Q (.ref s.heap.objs.size) { s with heap := h' }) :
    wpAny (model prog w) A (call (.type "enumerate") [.ref z]) Q E s := by
  refine callType_new F.called_enumerate (by decide) (F.typeCall_enumerate_1 _) (F.newCall_enumerate_1 _) (fun obj => F.args_object_init_2 obj _) F.entry_enumerate_new
    (meets_enumerate_newZ z TI TO) ⟨hz, ?_⟩
  have he : IsEnum (s.heap.push { cls := .type "enumerate", data := .fields #[.none, .bool false, .ref z, rawInt 0, .none, .none] }) s.heap.objs.size z 0 .none := Heap.get?_push_size _ rfl
  exact ⟨⟨_, he, rfl⟩, h _ he fun b o x => Heap.get?_push_of_some _ x⟩
end
def iEnumA (K : PySem.W.Frag) (ta : TA) : TI := fun σ H R => ta σ H fun vs H1 => ∃ a xs, vs = [.ref a] ∧ ((SqL K H1 a xs ∧ R (Ite K a) H1) ∨ (SqT K H1 a xs ∧ R (IteT K a) H1))
theorem pi_enumA {X : Cx} {e : Expr} {ta : TA} {p pos tpos : Pos} {elts : List Expr} {kk : Nat} (hg : Gl X "enumerate") (hm : X.mg "enumerate" = none) (ha : PA X [e] ta) (hs : starEach [e] X.env = [(false, eval e X.env)]) :
    PI X (.Tuple elts kk tpos) (.Call (.Name "enumerate" p) [e] [] pos) (iEnumA X.K ta) := by
  refine ⟨fun pins s σ H R I h => ?_⟩
  refine Call_ (ld_blt I hg hm boot_enumerate (PyProof.Rows.callWith_type1 (thn (ha.run pos pins s σ H _ I h) fun us s1 ⟨vs, H1, I1, r1, q1⟩ => ?_) hs rfl))
  obtain ⟨a, xs, ex, q⟩ := q1
  subst ex
  cases r1 with
  | cons r rr =>
    cases rr
    cases r
    have fr : ∀ b, b ∈ [s1.heap.objs.size + 1, s1.heap.objs.size] → FpOk X pins H1 b := fun b hb => by
      have e' : b = s1.heap.objs.size + 1 ∨ b = s1.heap.objs.size := by simpa using hb
      have hle : s1.heap.objs.size ≤ b := by
        rcases e' with z | z
        · rw [z]; exact Nat.le_add_right _ _
        · rw [z]; exact Nat.le_refl _
      exact I1.fpOk hle (I1.hok.fresh hle)
    rcases q with ⟨hq, q⟩ | ⟨hq, q⟩
    · obtain ⟨its, rv, p', hz⟩ := I1.list hq
      refine call_enumerate_list p'.isList fun h' he hit hsz hk => wpAny_pyIter_enum he ?_
      have I2 : Inv X pins σ H1 { s1 with heap := h' } := I1.kept (t' := s1.toks) hk
      exact ⟨s1.heap.objs.size + 1, [s1.heap.objs.size + 1, s1.heap.objs.size], _, _, H1, rfl, I2, turn_enum a (s1.heap.objs.size + 1) s1.heap.objs.size, ⟨⟨.none, he⟩, hit, Nat.succ_ne_self _⟩, fr, q⟩
    · obtain ⟨its, rv, p', hz⟩ := I1.tuple hq
      obtain ⟨o1, ho1, _⟩ := id p'
      have hlt := Heap.lt_size ho1
      refine call_enumT (show s1.heap.IsTuple a its.toArray from p') fun h' he hit hk => wpAny_pyIter_enum he ?_
      have I2 : Inv X pins σ H1 { s1 with heap := h' } := I1.kept (t' := s1.toks) hk
      exact ⟨s1.heap.objs.size + 1, [s1.heap.objs.size + 1, s1.heap.objs.size], _, _, H1, rfl, I2, turn_enumT a (s1.heap.objs.size + 1) s1.heap.objs.size, ⟨⟨.none, he⟩, hit, Nat.succ_ne_self _, Nat.ne_of_lt (Nat.lt_succ_of_lt hlt), Nat.ne_of_lt hlt⟩, fr, q⟩
def iEzip (K : PySem.W.Frag) (ta : TA) : TI := fun σ H R => ta σ H fun vs H1 => ∃ a b xs ys, vs = [.ref a, .ref b] ∧ SqT K H1 a xs ∧ SqT K H1 b ys ∧ R (ItzE K a b) H1
theorem pi_ezip {X : Cx} {e e2 : Expr} {ta : TA} {p p2 pos pos2 tpos : Pos} {elts : List Expr} {kk : Nat} (hg : Gl X "enumerate") (hm : X.mg "enumerate" = none) (hg2 : Gl X "zip") (hm2 : X.mg "zip" = none) (ha : PA X [e, e2] ta)
    (hs : starEach [e, e2] X.env = (false, eval e X.env) :: starEach [e2] X.env) (hpl : (backTo pos2 (starEach [e2] X.env)).any (·.1) = false)
    (hs1 : starEach [.Call (.Name "zip" p2) [e, e2] [] pos2] X.env = (false, eval (.Call (.Name "zip" p2) [e, e2] [] pos2) X.env) :: starEach [] X.env) :
    PI X (.Tuple elts kk tpos) (.Call (.Name "enumerate" p) [.Call (.Name "zip" p2) [e, e2] [] pos2] [] pos) (iEzip X.K ta) := by
  refine ⟨fun pins s σ H R I h => ?_⟩
  refine Call_ (ld_blt I hg hm boot_enumerate (PyProof.Rows.callWith_type1 (PyProof.Rows.args_cons ?_ hs1) hs1 rfl))
  refine Call_ (ld_blt I hg2 hm2 PyProof.Rows.boot_zip (PyProof.Rows.callWith_type1 (thn (ha.run pos2 pins s σ H _ I h) fun us s1 ⟨vs, H1, I1, r1, q1⟩ => ?_) hs hpl))
  obtain ⟨a, b, xs, ys, ex, hqx, hqy, q⟩ := q1
  subst ex
  cases r1 with
  | cons r rr =>
    cases rr with
    | cons r' rr =>
      cases rr
      cases r
      cases r'
      obtain ⟨its, rv, p1, _⟩ := I1.tuple hqx
      obtain ⟨its2, rv2, p2, _⟩ := I1.tuple hqy
      obtain ⟨o1, ho1, _⟩ := id p1
      obtain ⟨o2, ho2, _⟩ := id p2
      refine RZ.call_zipT (show s1.heap.IsTuple a its.toArray from p1) (show s1.heap.IsTuple b its2.toArray from p2) fun h' hz hTI hTO h1 h2 hsz hk => PyProof.Rows.args_nil ?_
      refine call_enumZ (s := { s1 with heap := h' }) hz fun h'' he hk2 => wpAny_pyIter_enum he ?_
      have I2 : Inv X pins σ H1 { s1 with heap := h'' } := I1.kept (t' := s1.toks) fun c o q => hk2 c o (hk c o q)
      have hs5 : h'.objs.size = s1.heap.objs.size + 5 := hsz
      show PIE X pins σ _ R (.ref h'.objs.size) _
      replace he : IsEnum h'' h'.objs.size (s1.heap.objs.size + 4) 0 .none := he
      rw [hs5] at he ⊢
      refine ⟨s1.heap.objs.size + 5, [s1.heap.objs.size + 5, s1.heap.objs.size + 4, s1.heap.objs.size + 2, s1.heap.objs.size + 3, s1.heap.objs.size, s1.heap.objs.size + 1], _, _, H1, rfl, I2,
        turn_ezip (PySem.W.ktu_apart s1.heap.objs.size a b (Heap.lt_size ho1) (Heap.lt_size ho2)) (by simp), ⟨⟨.none, he⟩, .none, false, .none, .none, .inl rfl, hk2 _ _ hz, hk2 _ _ hTI, hk2 _ _ hTO, h1.at fun o q => hk2 _ o q, h2.at fun o q => hk2 _ o q⟩, fun c hcm => ?_, q⟩
      have e' : c = s1.heap.objs.size + 5 ∨ c = s1.heap.objs.size + 4 ∨ c = s1.heap.objs.size + 2 ∨ c = s1.heap.objs.size + 3 ∨ c = s1.heap.objs.size ∨ c = s1.heap.objs.size + 1 := by simpa using hcm
      have hle : s1.heap.objs.size ≤ c := by
        rcases e' with z | z | z | z | z | z
        · rw [z]; exact Nat.le_add_right _ _
        · rw [z]; exact Nat.le_add_right _ _
        · rw [z]; exact Nat.le_add_right _ _
        · rw [z]; exact Nat.le_add_right _ _
        · rw [z]; exact Nat.le_refl _
        · rw [z]; exact Nat.le_add_right _ _
      exact I1.fpOk hle (I1.hok.fresh hle)
/-! ### the sources -/
section
variable {L : Lk} {G : Gm} {n : Nat} {X : Cx} {tg a b c e : Expr} {ia ib ic : IE} {pos p p2 pos2 : Pos} {A0 : AH} {N0 : Addr → Prop} {H0 : Hp}
theorem enumD_at : ∀ {xs : List D} {k i : Nat} {d : D}, xs[i]? = some d → (enumD k xs)[i]? = some (.tup [.int ((k + i : Nat) : Int), d])
  | [], _, _, _, h => by simp at h
  | x :: r, k, 0, d, h => by
    simp at h; subst h
    simp [enumD]
  | x :: r, k, i + 1, d, h => by
    have := enumD_at (xs := r) (k := k + 1) (i := i) (d := d) (by simpa using h)
    rw [enumD, List.getElem?_cons_succ, this]
    have e : k + 1 + i = k + (i + 1) := by omega
    rw [e]
theorem enumD_len : ∀ {xs : List D} {k : Nat}, (enumD k xs).length = xs.length
  | [], _ => rfl
  | x :: r, k => by rw [enumD, List.length_cons, List.length_cons, enumD_len]
theorem enum_yld {A : AH} {N : Addr → Prop} {H : Hp} {xs : List D} {i : Nat} {d : D} {v : V} {T : Addr} (ra : RA L A N H) (nT : H T = none) (e : xs[i]? = some d) (r : RV L.K A N H d v) :
    ∃ d', (enumD 0 xs)[i]? = some d' ∧ RV L.K A N (upd H T (.tup [.int (i : Nat), v])) d' (.ref T) ∧ RA L A N (upd H T (.tup [.int (i : Nat), v])) ∧ Ext A H A (upd H T (.tup [.int (i : Nat), v])) := by
  have s2 : Stay A N H A N (upd H T (.tup [.int (i : Nat), v])) := (Ext.tupNew ra nT).stay ra
  refine ⟨_, enumD_at (k := 0) e, rv_tup.mpr ⟨T, _, rfl, SqT.of upd_same, .cons ?_ (.cons (RV.stay s2 _ _ r) .nil)⟩, ra.tupNew nT, Ext.tupNew ra nT⟩
  rw [Nat.zero_add]; exact rv_int.mpr rfl
theorem dwk_enumT {q : Addr} {vs : List V} {ds : List D} (h : SqT L.K H0 q vs) (r : RVs L.K A0 N0 H0 ds vs) : DWk L N0 (IteT L.K q) (enumD 0 ds) (fun _ => True) A0 H0 := by
  have st : ∀ {A N H}, Stay A0 N0 H0 A N H → SqT L.K H q vs := fun x => DL.SqT.stay x h
  refine ⟨fun i A N H hi ra x _ => ?_, fun A N H ra x _ => ⟨vs, st x, by rw [enumD_len, r.length]; exact Nat.le_refl _⟩, fun i y A N H H' hi ra x _ hy => ?_⟩
  · rw [enumD_len] at hi
    obtain ⟨v, e, _⟩ := RVs.get r (List.getElem?_eq_getElem hi)
    exact ⟨vs, v, st x, e⟩
  · obtain ⟨T, v, rfl, nT, rfl, hy⟩ := hy
    obtain ⟨d, e1, e2⟩ := RVs.gets r (hy vs (st x))
    exact enum_yld ra nT e1 (RV.stay x _ _ e2)
theorem dwk_enumF {q : Addr} {vs : List V} {ds : List D} (h : SqR L.K A0 N0 H0 q vs) (r : RVs L.K A0 N0 H0 ds vs) : DWk L N0 (Ite L.K q) (enumD 0 ds) (fun _ => True) A0 H0 := by
  have st : ∀ {A N H}, Stay A0 N0 H0 A N H → SqL L.K H q vs := fun x => (DL.SqR.stay x h).seq
  refine ⟨fun i A N H hi ra x _ => ?_, fun A N H ra x _ => ⟨vs, st x, by rw [enumD_len, r.length]; exact Nat.le_refl _⟩, fun i y A N H H' hi ra x _ hy => ?_⟩
  · rw [enumD_len] at hi
    obtain ⟨v, e, _⟩ := RVs.get r (List.getElem?_eq_getElem hi)
    exact ⟨vs, v, st x, e⟩
  · obtain ⟨T, v, rfl, nT, rfl, hy⟩ := hy
    obtain ⟨d, e1, e2⟩ := RVs.gets r (hy vs (st x))
    exact enum_yld ra nT e1 (RV.stay x _ _ e2)
theorem dwk_enumL {q : Addr} {ds : List D} : DWk L N0 (Ite L.K q) (enumD 0 ds) (fun A => A q = some (.lst ds)) A0 H0 := by
  refine ⟨fun i A N H hi ra x g => ?_, fun A N H ra x g => ?_, fun i y A N H H' hi ra x g hy => ?_⟩
  · obtain ⟨vs, h1, h2⟩ := ra q _ g
    rw [enumD_len] at hi
    obtain ⟨v, e, _⟩ := RVs.get h2 (List.getElem?_eq_getElem hi)
    exact ⟨vs, v, SqL.of h1, e⟩
  · obtain ⟨vs, h1, h2⟩ := ra q _ g
    exact ⟨vs, SqL.of h1, by rw [enumD_len, h2.length]; exact Nat.le_refl _⟩
  · obtain ⟨vs, h1, h2⟩ := ra q _ g
    obtain ⟨T, v, rfl, nT, rfl, hy⟩ := hy
    obtain ⟨d, e1, e2⟩ := RVs.gets h2 (hy vs (SqL.of h1))
    exact enum_yld ra nT e1 e2
theorem di_enum {elts : List Expr} {kk : Nat} {tpos : Pos} (hg : Gl X "enumerate") (hm : X.mg "enumerate" = none) (ha : DE L G n X a ia) (hs : starEach [a] X.env = (false, eval a X.env) :: starEach [] X.env) : DI L G n X (.Tuple elts kk tpos) (.Call (.Name "enumerate" p) [a] [] pos) .enum [ia] := fun C W tk =>
  pi_imp (pi_enumA hg hm (pa_cons (ha C W tk) pa_nil hs) hs) fun σ H R ⟨N, δ, A, Rd, Ed, rs, ra, h, hq, hx⟩ =>
    LE.use rs ra h (fun d A1 v1 H1 rv1 ra1 ex1 rs1 q1 => by
      rw [C.K]
      cases d with
      | tup xs =>
        obtain ⟨q, vs, rfl, h1, h2⟩ := rv_tup.mp rv1
        exact ⟨q, vs, rfl, .inr ⟨h1, hq _ _ A1 H1 _ (dwk_enumT h1 h2) ra1 ex1 q1⟩⟩
      | fl xs =>
        obtain ⟨q, vs, rfl, h1, h2⟩ := rv_fl.mp rv1
        exact ⟨q, vs, rfl, .inl ⟨.inl h1.1, hq _ _ A1 H1 _ (dwk_enumF (.inl h1) h2) ra1 ex1 q1⟩⟩
      | ref q =>
        have q1 : (match A1 q with | some (.lst xs) => Rd (enumD 0 xs) (fun A' => A' q = some (.lst xs)) A1 | _ => False) := q1
        split at q1
        · next xs e =>
          obtain ⟨vs, h1, h2⟩ := ra1 q _ e
          rw [rv_ref.mp rv1]
          exact ⟨q, vs, rfl, .inl ⟨SqL.of h1, hq _ _ A1 H1 _ dwk_enumL ra1 ex1 q1⟩⟩
        · exact q1.elim
      | _ => exact (show False from q1).elim) hx
theorem dwk_ezip {q q' : Addr} {vs ws : List V} {ds es : List D} (h : SqT L.K H0 q vs) (r : RVs L.K A0 N0 H0 ds vs) (h' : SqT L.K H0 q' ws) (r' : RVs L.K A0 N0 H0 es ws) : DWk L N0 (ItzE L.K q q') (enumD 0 (List.zipWith (fun x y => .tup [x, y]) ds es)) (fun _ => True) A0 H0 := by
  have st : ∀ {A N H}, Stay A0 N0 H0 A N H → SqT L.K H q vs := fun x => DL.SqT.stay x h
  have st' : ∀ {A N H}, Stay A0 N0 H0 A N H → SqT L.K H q' ws := fun x => DL.SqT.stay x h'
  have hl : (enumD 0 (List.zipWith (fun x y => D.tup [x, y]) ds es)).length = min vs.length ws.length := by rw [enumD_len, List.length_zipWith, r.length, r'.length]
  refine ⟨fun i A N H hi ra x _ => ?_, fun A N H ra x _ => ?_, fun i y A N H H' hi ra x _ hy => ?_⟩
  · rw [hl] at hi
    have h1 : i < vs.length := by omega
    have h2 : i < ws.length := by omega
    exact ⟨vs, ws, vs[i], ws[i], st x, st' x, by simp [h1], by simp [h2]⟩
  · exact ⟨vs, ws, st x, st' x, by rw [hl]; omega⟩
  · obtain ⟨T, T1, y1, y2, rfl, nT1, nT, rfl, f1, f2⟩ := hy
    obtain ⟨d1, e1, e2⟩ := RVs.gets r (f1 vs (st x))
    obtain ⟨d2, e3, e4⟩ := RVs.gets r' (f2 ws (st' x))
    have s2 : Stay A N H A N (upd H T1 (.tup [y1, y2])) := (Ext.tupNew ra nT1).stay ra
    have ra1 := ra.tupNew (u := .tup [y1, y2]) nT1
    have rv1 : RV L.K A N (upd H T1 (.tup [y1, y2])) (.tup [d1, d2]) (.ref T1) := rv_tup.mpr ⟨T1, _, rfl, SqT.of upd_same, .cons (RV.stay s2 _ _ (RV.stay x _ _ e2)) (.cons (RV.stay s2 _ _ (RV.stay x _ _ e4)) .nil)⟩
    obtain ⟨d', a1, a2, a3, a4⟩ := enum_yld (xs := List.zipWith (fun x y => D.tup [x, y]) ds es) (i := i) ra1 nT (by rw [List.getElem?_zipWith, e1, e3]) rv1
    exact ⟨d', a1, a2, a3, (Ext.tupNew ra nT1).trans a4⟩
theorem di_ezip {elts : List Expr} {kk : Nat} {tpos : Pos} (hg : Gl X "enumerate") (hm : X.mg "enumerate" = none) (hg2 : Gl X "zip") (hm2 : X.mg "zip" = none) (ha : DE L G n X a ia) (hb : DE L G n X b ib)
    (hs : starEach [a, b] X.env = (false, eval a X.env) :: starEach [b] X.env) (hs2 : starEach [b] X.env = (false, eval b X.env) :: starEach [] X.env) (hpl : (backTo pos2 (starEach [b] X.env)).any (·.1) = false)
    (hs1 : starEach [.Call (.Name "zip" p2) [a, b] [] pos2] X.env = (false, eval (.Call (.Name "zip" p2) [a, b] [] pos2) X.env) :: starEach [] X.env) :
    DI L G n X (.Tuple elts kk tpos) (.Call (.Name "enumerate" p) [.Call (.Name "zip" p2) [a, b] [] pos2] [] pos) .ezip [ia, ib] := fun C W tk =>
  pi_imp (pi_ezip hg hm hg2 hm2 (pa_cons (ha C W tk) (pa_cons (hb C W tk) pa_nil hs2) hs) hs hpl hs1) fun σ H R ⟨N, δ, A, Rd, Ed, rs, ra, h, hq, hx⟩ =>
    LE.use rs ra h (fun d A1 v1 H1 rv1 ra1 ex1 rs1 q1 => LE.use rs1 ra1 q1 (fun d2 A2 v2 H2 rv2 ra2 ex2 rs2 q2 => by
      have rv1' := RV.stay (ex2.stay ra1) _ _ rv1
      rw [C.K]
      cases d with
      | tup xs =>
        cases d2 with
        | tup ys =>
          obtain ⟨q, vs, rfl, h1, h2⟩ := rv_tup.mp rv1'
          obtain ⟨q', ws, rfl, h3, h4⟩ := rv_tup.mp rv2
          exact ⟨q, q', vs, ws, rfl, h1, h3, hq _ _ A2 H2 _ (dwk_ezip h1 h2 h3 h4) ra2 (ex1.trans ex2) q2⟩
        | _ => exact (show False from q2).elim
      | _ => cases d2 <;> exact (show False from q2).elim) (XW.ext hx ex1)) hx
/-! ### range with a step -/
theorem dwk_rngC {lo k : Int} {m : Nat} : DWk L N0 (Itc lo k m) ((List.range m).map fun i => .int (lo + (i : Nat) * k)) (fun _ => True) A0 H0 := by
  refine ⟨fun i A N H hi ra x _ => ?_, fun A N H ra x _ => ?_, fun i y A N H H' hi ra x _ hy => ?_⟩
  · rw [List.length_map, List.length_range] at hi; exact hi
  · show _ ≤ _
    rw [List.length_map, List.length_range]; exact Nat.le_refl _
  · obtain ⟨rfl, rfl⟩ := hy
    rw [List.length_map, List.length_range] at hi
    refine ⟨.int (lo + (i : Nat) * k), ?_, rv_int.mpr rfl, ra, Ext.refl _ _⟩
    rw [List.getElem?_map, List.getElem?_range hi]; rfl
theorem di_rng3 (hg : Gl X "range") (hm : X.mg "range" = none) (ha : DE L G n X a ia) (hb : DE L G n X b ib) (hc : DE L G n X c ic) (hs : starEach [a, b, c] X.env = (false, eval a X.env) :: starEach [b, c] X.env) (hs2 : starEach [b, c] X.env = (false, eval b X.env) :: starEach [c] X.env) (hs3 : starEach [c] X.env = (false, eval c X.env) :: starEach [] X.env)
    (hpl : (backTo pos (starEach [b, c] X.env)).any (·.1) = false) : DI L G n X tg (.Call (.Name "range" p) [a, b, c] [] pos) .rng3 [ia, ib, ic] := fun C W tk =>
  pi_imp (pi_range3 hg hm (pa_cons (ha C W tk) (pa_cons (hb C W tk) (pa_cons (hc C W tk) pa_nil hs3) hs2) hs) hs hpl) fun σ H R ⟨N, δ, A, Rd, Ed, rs, ra, h, hq, hx⟩ =>
    LE.use rs ra h (fun d A1 v1 H1 rv1 ra1 ex1 rs1 q1 => LE.use rs1 ra1 q1 (fun d2 A2 v2 H2 rv2 ra2 ex2 rs2 q2 => LE.use rs2 ra2 q2 (fun d3 A3 v3 H3 rv3 ra3 ex3 rs3 q3 => by
      cases d with
      | int i =>
        cases d2 with
        | int j =>
          cases d3 with
          | int k =>
            have q3 : ∃ m, RgC i j k m ∧ Rd ((List.range m).map fun i' => .int (i + (i' : Nat) * k)) (fun _ => True) A3 := q3
            obtain ⟨m, h1, q3⟩ := q3
            exact ⟨i, j, k, m, by rw [rv_int.mp rv1, rv_int.mp rv2, rv_int.mp rv3], h1, hq _ _ A3 H3 _ dwk_rngC ra3 ((ex1.trans ex2).trans ex3) q3⟩
          | _ => exact (show False from q3).elim
        | _ => cases d3 <;> exact (show False from q3).elim
      | _ => cases d2 <;> cases d3 <;> exact (show False from q3).elim) (XW.ext hx (ex1.trans ex2))) (XW.ext hx ex1)) hx
end
end DL

set_option Elab.async false
set_option linter.all false
set_option maxRecDepth 100000
/-! slices of tuples with a step; short rules of the later constructs -/
namespace DL
open PySem PySem.Spec PyProof.Rows L2
section
variable {prog : Program} {w : World} {A : Around} {E : Value → Shared → Prop} {s : Shared}
theorem places_up {m c : Nat} (hc : 0 < c) : Builtin.Slice.slicePlaces 0 (m : Int) (c : Int) = (m + c - 1) / c := by
  unfold Builtin.Slice.slicePlaces
  rw [if_pos (by omega)]
  cases m with
  | zero =>
    rw [if_neg (by simp)]
    rw [Nat.zero_add, Nat.div_eq_of_lt (by omega)]; rfl
  | succ m =>
    rw [if_pos (by omega)]
    have e : ((m + 1 : Nat) : Int) - 0 - 1 = (m : Nat) := by omega
    rw [e]
    have e2 : m + 1 + c - 1 = m + c := by omega
    rw [e2, Nat.add_div_right _ hc]
    have e3 : ((m : Nat) : Int) / (c : Int) = ((m / c : Nat) : Int) := (Int.natCast_ediv m c).symm
    rw [e3]
    generalize m / c = z
    omega
theorem applied_up {sl : Addr} {t : Tok} {m c : Nat} {Q : Int × Int × Nat → Shared → Prop} (hc : 0 < c) (hs : s.heap.IsSliceOf sl .none .none (.int (c : Int) t)) (q : Q (0, (c : Int), (m + c - 1) / c) s) : wpAny (model prog w) A (Builtin.Slice.sliceApplied (.ref sl) (pure (m : Int))) Q E s := by
  obtain ⟨ob, h1, h2, h3⟩ := hs
  unfold Builtin.Slice.sliceApplied Builtin.Slice.sliceFields
  refine wpAny_bind (wpAny_bind (wpAny_field h1 h3 (x := .none) rfl (wpAny_bind (wpAny_field h1 h3 (x := .none) rfl (wpAny_bind (wpAny_field h1 h3 (x := .int (c : Int) t) rfl (wpAny_pure ?_)))))))
  refine wpAny_bind (slicePart_int ?_)
  show wpAny _ _ (if (((c : Nat) : Int) == 0) = true then _ else _) _ _ s
  rw [if_neg (by rw [beq_iff_eq]; omega)]
  refine wpAny_bind (slicePart_none (wpAny_bind (slicePart_none (wpAny_bind (wpAny_pure ?_)))))
  have hn : ¬ ((c : Nat) : Int) < 0 := by omega
  have e : Builtin.Slice.sliceAdjust none none (c : Int) (m : Int) = (0, (m : Int)) := by
    unfold Builtin.Slice.sliceAdjust
    simp [hn]
  show wpAny _ _ (match Builtin.Slice.sliceAdjust none none (c : Int) (m : Int) with | (lo, hi) => pure (lo, (c : Int), Builtin.Slice.slicePlaces lo hi (c : Int))) _ _ s
  rw [e]
  show wpAny _ _ (pure ((0 : Int), (c : Int), Builtin.Slice.slicePlaces 0 (m : Int) (c : Int))) _ _ s
  rw [places_up hc]
  exact wpAny_pure q
theorem pick_up (xs : Array Value) (c : Nat) : ((List.range ((xs.size + c - 1) / c)).filterMap fun (k : Nat) => xs[((0 : Int) + (k : Int) * (c : Int)).toNat]?).toArray = (stepL c xs.toList).toArray := by
  congr 1
  unfold stepL
  rw [Array.length_toList]
  congr 1
  funext k
  have e : ((0 : Int) + (k : Int) * (c : Int)).toNat = k * c := by
    have : (k : Int) * (c : Int) = ((k * c : Nat) : Int) := by simp
    rw [Int.zero_add, this, Int.toNat_natCast]
  rw [e, Array.getElem?_toList]
theorem stepL_len {α : Type} (c : Nat) (xs : List α) (hc : 0 < c) : (stepL c xs).length ≤ xs.length := by
  unfold stepL
  refine Nat.le_trans (List.length_filterMap_le _ _) ?_
  rw [List.length_range]
  cases h : xs.length with
  | zero => rw [Nat.zero_add, Nat.div_eq_of_lt (by omega)]; exact Nat.le_refl _
  | succ m =>
    have e2 : m + 1 + c - 1 = m + c := by omega
    rw [e2, Nat.add_div_right _ hc]
    have := Nat.div_le_self m c
    omega
theorem tuple_up {t sl : Addr} {items : Array Value} {k : Tok} {c : Nat} {Q : Value → Shared → Prop} (hc : 1 < c) (ht : IsTup s.heap t items) (hs : s.heap.IsSliceOf sl .none .none (.int (c : Int) k)) (hz : items.size ≤ sizeLine)
    (q : Q (.ref s.heap.objs.size) { s with heap := s.heap.push { cls := .type "tuple", data := .seq (stepL c items.toList).toArray } }) : wpAny (model prog w) A (getItem (.ref t) (.ref sl)) Q E s := by
  obtain ⟨ob, h1, h2, h3⟩ := id hs
  have ty : s.TypeIs (.ref sl) "slice" := ⟨ob, h1, h2⟩
  have sz : sizeOk (.seq (stepL c items.toList).toArray) := by
    show (stepL c items.toList).toArray.size ≤ sizeLine
    rw [List.size_toArray]
    exact Nat.le_trans (stepL_len c _ (by omega)) (by simpa using hz)
  unfold getItem
  refine wpAny_holding ?_
  refine wpAny_bind (wpAny_sequenceKey ht.typeIs (by decide) (wpAny_bind (wpAny_callSpecial?_slot (name := Str.ofString "__getitem__") ht.typeIs PyProof.Rows.slot_tuple_getitem
    (wpAny_call_entry PyProof.Rows.slot_tuple_getitem ht.typeIs entry_tuple_getitem ?_ (args_tuple_getitem _ _)))))
  show wpAny _ _ (Builtin.Tuple.tupleItemsOf (.ref t) >>= _) _ _ s
  refine wpAny_bind (tupleItemsOf_ ht (wpAny_bind (wpAny_typeOf ty ?_)))
  rw [if_pos (by decide)]
  refine wpAny_bind (applied_up (c := c) (by omega) hs ?_)
  have no : ¬ (((0 : Int) == 0 && ((c : Nat) : Int) == 1 && (items.size + c - 1) / c == items.size) = true) := by
    intro z
    rw [Bool.and_eq_true, Bool.and_eq_true] at z
    have := beq_iff_eq.mp z.1.2
    omega
  show wpAny _ _ (if ((0 : Int) == 0 && ((c : Nat) : Int) == 1 && (items.size + c - 1) / c == items.size) = true then _ else _) _ _ s
  rw [if_neg no, pick_up]
  first
    | exact wpAny_bind (m := Builtin.Tuple.tupleExact _) (wpAny_newObj_type (wpAny_pure ⟨_, rfl, wpAny_pure q⟩) sz)
    | exact wpAny_bind (m := Builtin.Tuple.tupleExact _) (wpAny_newObj_type (wpAny_bind (wpAny_pure (wpAny_pure ⟨_, rfl, wpAny_pure q⟩))) sz)
    | exact wpAny_bind (wpAny_bind (m := Builtin.Tuple.tupleExact _) (wpAny_newObj_type (wpAny_pure ⟨_, rfl, wpAny_pure q⟩) sz))
end
theorem filterMap_rv {K : PySem.W.Frag} {A : AH} {N : Addr → Prop} {H : Hp} {ds : List D} {vs : List V} (r : RVs K A N H ds vs) (f : Nat → Nat) : ∀ l : List Nat, RVs K A N H (l.filterMap fun i => ds[f i]?) (l.filterMap fun i => vs[f i]?)
  | [] => .nil
  | i :: l => by
    rw [List.filterMap_cons, List.filterMap_cons]
    cases e : ds[f i]? with
    | none =>
      have e2 : vs[f i]? = none := by
        rw [List.getElem?_eq_none_iff] at e ⊢
        rw [← r.length]; exact e
      rw [e2]; exact filterMap_rv r f l
    | some d =>
      obtain ⟨v, e2, h⟩ := RVs.get r e
      rw [e2]; exact .cons h (filterMap_rv r f l)
theorem RVs.step {K : PySem.W.Frag} {A : AH} {N : Addr → Prop} {H : Hp} {ds : List D} {vs : List V} (r : RVs K A N H ds vs) (k : Nat) : RVs K A N H (stepL k ds) (stepL k vs) := by
  unfold stepL
  rw [r.length]
  exact filterMap_rv r (fun i => i * k) _
theorem vals_step {vs : List V} {us : List Value} (r : Vals vs us) (k : Nat) : Vals (stepL k vs) (stepL k us) := by
  unfold stepL
  rw [r.length]
  generalize List.range ((us.length + k - 1) / k) = l
  induction l with
  | nil => exact .nil
  | cons i l ih =>
    rw [List.filterMap_cons, List.filterMap_cons]
    cases e : vs[i * k]? with
    | none =>
      have e2 : us[i * k]? = none := by
        rw [List.getElem?_eq_none_iff] at e ⊢
        rw [← r.length]; exact e
      rw [e2]; exact ih
    | some d =>
      obtain ⟨v, e2, h⟩ := r.get e
      rw [e2]; exact .cons h ih
section
variable {L : Lk} {G : Gm} {n : Nat} {X : Cx} {a b c d e o : Expr} {es : List Expr} {ia ib ic id ie io : IE} {ies : List IE} {pos p p1 p2 p3 apos cpos : Pos} {x y f m : Str} {t : Tg}
def tStepT (K : PySem.W.Frag) (k : Nat) (te : TE) : TE := fun σ H Q => te σ H fun x H1 => ∃ q xs, x = .ref q ∧ SqT K H1 q xs ∧ ∀ p, H1 p = none → Q (.ref p) (upd H1 p (.tup (stepL k xs)))
theorem pe_stepT {k j : Nat} {te : TE} (hk : 1 < k) (he : PE X e te) : PE X (.Subscript e (.Slice none none (some (.Constant (.int (k : Int)) j p1)) p3) pos) (tStepT X.K k te) := by
  constructor
  intro pins s σ H Q I h
  refine Subscript_ (thn (he.run pins s σ H _ I h) fun v s1 ⟨x, H1, I1, r1, q1⟩ => ?_)
  obtain ⟨q, xs, rfl, hx, q1⟩ := q1
  cases r1
  have st : PO X (some (.Constant (.int (k : Int)) j p1)) (tPart (tC (.int (k : Int)))) := po_some pe_int
  refine wpAny_Slice (thn (po_none.run pins s1 σ H1 (fun o H2 => o = none ∧ H2 = H1) I1 ⟨rfl, rfl⟩) fun vl s2 ⟨l, H2, I2, pl, e1, e2⟩ => ?_)
  subst e1 e2
  refine thn (po_none.run pins s2 σ H2 (fun o H3 => o = none ∧ H3 = H2) I2 ⟨rfl, rfl⟩) fun vu s3 ⟨u, H3, I3, pu, e1, e2⟩ => ?_
  subst e1 e2
  refine thn (st.run pins s3 σ H3 (fun o H4 => o = some (k : Int) ∧ H4 = H3) I3 ⟨k, rfl, rfl, rfl⟩) fun vs s4 ⟨o, H4, I4, ps, e1, e2⟩ => ?_
  subst e1 e2
  have I5 : Inv X pins σ H4 { s4 with heap := s4.heap.push { cls := .type "slice", data := .fields #[vl, vu, vs] } } := I4.kept (t' := s4.toks) fun b ob z => Heap.get?_push_of_some _ z
  show wpAny (model X.prog X.w) X.A (subscriptTail e (.Slice none none (some (.Constant (.int (k : Int)) j p1)) p3) (.ref q) (.ref s4.heap.objs.size)) (EP X pins σ Q) X.xe { s4 with heap := s4.heap.push { cls := .type "slice", data := .fields #[vl, vu, vs] } }
  obtain ⟨its, r, ht, hz⟩ := I5.tuple hx
  have hlen := r.length
  refine tail_any (ops := [.ref q, .ref s4.heap.objs.size]) ht.typeIs (PyProof.Rows.slot_tuple_getitem.lookup) ?_ (by with_unfolding_all rfl)
  cases pl
  cases pu
  cases ps with
  | int i t =>
    refine tuple_up hk ht (Heap.IsSliceOf.new _ _ _ _) (by rw [List.size_toArray]; omega) ?_
    exact ⟨.ref _, _, I5.laid (t' := s4.toks) (o := .tup (stepL k xs)) (fun b ob z => Heap.get?_push_of_some _ z) (Nat.le_refl _) ⟨Nat.le_trans (stepL_len k _ (by omega)) hz, _, vals_step r k, ⟨_, Heap.get?_push_size _ rfl, rfl, _, rfl⟩⟩, rfl, q1 _ (I5.hok.fresh (Nat.le_refl _))⟩
theorem step_ {k j : Nat} (hk : 1 < k) (he : DE L G n X e ie) : DE L G n X (.Subscript e (.Slice none none (some (.Constant (.int (k : Int)) j p1)) p3) pos) (.step ie k) := fun C W tk =>
  pe_imp (pe_stepT hk (he C W tk)) fun σ H Q ⟨N, δ, A, Qd, Ed, rs, ra, h, hq, hx⟩ =>
    LE.use rs ra h (fun x A1 v1 H1 rv1 ra1 ex1 rs1 q1 => by
      have k1 : Kt L A1 N H1 Qd Q := fun d A' v' H' r1 r2 e q => hq d A' v' H' r1 r2 (ex1.trans e) q
      rw [C.K]
      cases x with
      | tup xs =>
        obtain ⟨q, vs, rfl, h1, h2⟩ := rv_tup.mp rv1
        exact ⟨q, vs, rfl, h1, k1.tup ra1 (h2.step k) q1.2⟩
      | _ => exact (show False from q1).elim) hx

/-! ### short rules -/
theorem ie_ {elts : List Expr} {kk : Nat} {tpos : Pos} (hm : X.mg "enumerate" = none) (ha : DE L G n X a ia) (hg : Gl X "enumerate" := by rfl) (hs : starEach [a] X.env = (false, eval a X.env) :: starEach [] X.env := by rfl) : DI L G n X (.Tuple elts kk tpos) (.Call (.Name "enumerate" p) [a] [] pos) .enum [ia] := di_enum hg hm ha hs
theorem iez_ {elts : List Expr} {kk : Nat} {tpos pos2 : Pos} (hm : X.mg "enumerate" = none) (hm2 : X.mg "zip" = none) (ha : DE L G n X a ia) (hb : DE L G n X b ib) (hg : Gl X "enumerate" := by rfl) (hg2 : Gl X "zip" := by rfl)
    (hs : starEach [a, b] X.env = (false, eval a X.env) :: starEach [b] X.env := by rfl) (hs2 : starEach [b] X.env = (false, eval b X.env) :: starEach [] X.env := by rfl) (hpl : (backTo pos2 (starEach [b] X.env)).any (·.1) = false := by rfl)
    (hs1 : starEach [.Call (.Name "zip" p2) [a, b] [] pos2] X.env = (false, eval (.Call (.Name "zip" p2) [a, b] [] pos2) X.env) :: starEach [] X.env := by rfl) :
    DI L G n X (.Tuple elts kk tpos) (.Call (.Name "enumerate" p) [.Call (.Name "zip" p2) [a, b] [] pos2] [] pos) .ezip [ia, ib] := di_ezip hg hm hg2 hm2 ha hb hs hs2 hpl hs1
theorem ir3_ {tg : Expr} (hm : X.mg "range" = none) (ha : DE L G n X a ia) (hb : DE L G n X b ib) (hc : DE L G n X c ic) (hg : Gl X "range" := by rfl) (hs : starEach [a, b, c] X.env = (false, eval a X.env) :: starEach [b, c] X.env := by rfl) (hs2 : starEach [b, c] X.env = (false, eval b X.env) :: starEach [c] X.env := by rfl) (hs3 : starEach [c] X.env = (false, eval c X.env) :: starEach [] X.env := by rfl)
    (hpl : (backTo pos (starEach [b, c] X.env)).any (·.1) = false := by rfl) : DI L G n X tg (.Call (.Name "range" p) [a, b, c] [] pos) .rng3 [ia, ib, ic] := di_rng3 hg hm ha hb hc hs hs2 hs3 hpl
theorem hu65 {n : Nat} {X : Cx} {L : Lk} {G : Gm} (C : Cn L G n X) : X.A.units + 65 < cLine := by have := C.room.un; omega
theorem kinE (ha : DE L G n X a ia) (hb : DE L G n X b ib) (hm : behindInMarks .In b = false := by rfl) : DE L G n X (.Compare a [.In] [b] pos) (.cmp .kin ia ib) := fun C => de_cmp (op_kin (hu_of C.room)) (fun _ => dop_kin) hm ha hb C
theorem nkinE (ha : DE L G n X a ia) (hb : DE L G n X b ib) (hm : behindInMarks .NotIn b = false := by rfl) : DE L G n X (.Compare a [.NotIn] [b] pos) (.cmp .nkin ia ib) := fun C => de_cmp (op_nkin (hu_of C.room)) (fun _ => dop_nkin) hm ha hb C
theorem kinT (ha : DE L G n X a ia) (hb : DE L G n X b ib) (hm : behindInMarks .In b = false := by rfl) : DT L G n X (.Compare a [.In] [b] pos) (.val (.cmp .kin ia ib)) := fun C => dt_cmp (op_kin (hu_of C.room)) (fun _ => dop_kin) hm ha hb C
theorem nkinT (ha : DE L G n X a ia) (hb : DE L G n X b ib) (hm : behindInMarks .NotIn b = false := by rfl) : DT L G n X (.Compare a [.NotIn] [b] pos) (.val (.cmp .nkin ia ib)) := fun C => dt_cmp (op_nkin (hu_of C.room)) (fun _ => dop_nkin) hm ha hb C
theorem dinE (ha : DE L G n X a ia) (hb : DE L G n X b ib) (hm : behindInMarks .In b = false := by rfl) : DE L G n X (.Compare a [.In] [b] pos) (.cmp .din ia ib) := fun C => de_cmp (op_inDp (hu65 C)) (fun h => by rw [h]; exact dop_din) hm ha hb C
theorem ndinE (ha : DE L G n X a ia) (hb : DE L G n X b ib) (hm : behindInMarks .NotIn b = false := by rfl) : DE L G n X (.Compare a [.NotIn] [b] pos) (.cmp .ndin ia ib) := fun C => de_cmp (op_ninDp (hu65 C)) (fun h => by rw [h]; exact dop_ndin) hm ha hb C
theorem dinT (ha : DE L G n X a ia) (hb : DE L G n X b ib) (hm : behindInMarks .In b = false := by rfl) : DT L G n X (.Compare a [.In] [b] pos) (.val (.cmp .din ia ib)) := fun C => dt_cmp (op_inDp (hu65 C)) (fun h => by rw [h]; exact dop_din) hm ha hb C
theorem ndinT (ha : DE L G n X a ia) (hb : DE L G n X b ib) (hm : behindInMarks .NotIn b = false := by rfl) : DT L G n X (.Compare a [.NotIn] [b] pos) (.val (.cmp .ndin ia ib)) := fun C => dt_cmp (op_ninDp (hu65 C)) (fun h => by rw [h]; exact dop_ndin) hm ha hb C
theorem b_lend : BiR L X "len" (.builtin "len") .lend := ⟨.inl ⟨_, rfl, _, fun _ => cr_lend, fun _ => db_lend⟩, by decide +kernel, by decide, by decide⟩
theorem b_sortd : BiR L X "sorted" (.builtin "sorted") .sortd := ⟨.inl ⟨_, rfl, _, cr_sortd, fun _ => db_sortd⟩, by decide +kernel, by decide, by decide⟩
theorem b_dict : BiR L X "dict" (.type "dict") .dict := ⟨.inr ⟨_, rfl, rDictD, fun _ => call_dictD, fun _ => db_dict⟩, by decide +kernel, by decide, by decide⟩
theorem b_listd : BiR L X "list" (.type "list") .listd := ⟨.inr ⟨_, rfl, rListD', fun h => call_listD h, fun _ => db_listd⟩, by decide +kernel, by decide, by decide⟩
theorem b_dictp : BiR L X "dict" (.type "dict") .dictp := ⟨.inr ⟨_, rfl, rDictP X.K, fun h => call_dictP h, fun h => by rw [h]; exact db_dictp⟩, by decide +kernel, by decide, by decide⟩
theorem b_dictt : BiR L X "dict" (.type "dict") .dictt := ⟨.inr ⟨_, rfl, _, fun h => cr_dictt h, fun h => by rw [h]; exact db_dictt⟩, by decide +kernel, by decide, by decide⟩
theorem get1_ (ho : DE L G n X o io) (ha : DE L G n X a ia) (mm : M1 X o "get" apos a cpos := by exact ⟨rfl, rfl, rfl, rfl⟩) : DE L G n X (.Call (.Attribute o "get" apos) [a] [] cpos) (.bm .get io [ia]) := de_get1 ho ha mm
theorem get2_ (ho : DE L G n X o io) (ha : DE L G n X a ia) (hb : DE L G n X b ib) (mm : M2 X o "get" apos a b cpos := by exact ⟨rfl, rfl, rfl, rfl⟩) : DE L G n X (.Call (.Attribute o "get" apos) [a, b] [] cpos) (.bm .get io [ia, ib]) := de_get2 ho ha hb mm
theorem dpop1_ (ho : DE L G n X o io) (ha : DE L G n X a ia) (mm : M1 X o "pop" apos a cpos := by exact ⟨rfl, rfl, rfl, rfl⟩) : DE L G n X (.Call (.Attribute o "pop" apos) [a] [] cpos) (.bm .dpop io [ia]) := de_dpop1 ho ha mm
theorem dpop2_ (ho : DE L G n X o io) (ha : DE L G n X a ia) (hb : DE L G n X b ib) (mm : M2 X o "pop" apos a b cpos := by exact ⟨rfl, rfl, rfl, rfl⟩) : DE L G n X (.Call (.Attribute o "pop" apos) [a, b] [] cpos) (.bm .dpop io [ia, ib]) := de_dpop2 ho ha hb mm
theorem setd_ (ho : DE L G n X o io) (ha : DE L G n X a ia) (hb : DE L G n X b ib) (mm : M2 X o "setdefault" apos a b cpos := by exact ⟨rfl, rfl, rfl, rfl⟩) : DE L G n X (.Call (.Attribute o "setdefault" apos) [a, b] [] cpos) (.bm .setdefault io [ia, ib]) := de_setd ho ha hb mm
theorem fld_ {C i : Nat} {cd : ClD} (hf : (L.FN C)[i]? = some f) (ho : DE L G n X o io) (hC : G.cl C = some cd := by rfl) (hb : attributeBase o f X.env (eval o X.env) = eval o X.env := by rfl) : DE L G n X (.Attribute o f pos) (.fld C i io) := de_fld hC hf ho hb
theorem meth_ {k : Nat} {pl : Sem Bool} (hm : L.MN k = m) (ho : DE L G n X o io) (ha : DA L G n X (e :: es) ies)
    (hst : starEach (e :: es) X.env = (false, eval e X.env) :: starEach es X.env := by rfl) (hpl : (backTo pos (starEach es X.env)).any (·.1) = false := by rfl)
    (ht : eval (.Call (.Attribute o m apos) (e :: es) [] pos) X.env = (do
      let ov ← eval o X.env
      standAt apos.atName
      let (f, first) ← holding [ov] (getMethod ov m pl)
      callWith pos f first (backTo pos (starEach (e :: es) X.env)) (backToKw pos (keywordEach [] X.env))) := by rfl) : DE L G n X (.Call (.Attribute o m apos) (e :: es) [] pos) (.meth k io ies) := de_meth hm ho ha hst hpl ht
theorem meth0_ {k : Nat} {pl : Sem Bool} (hm : L.MN k = m) (ho : DE L G n X o io)
    (ht : eval (.Call (.Attribute o m apos) [] [] pos) X.env = (do
      let ov ← eval o X.env
      standAt apos.atName
      let (f, first) ← holding [ov] (getMethod ov m pl)
      callWith pos f first (backTo pos (starEach [] X.env)) (backToKw pos (keywordEach [] X.env))) := by rfl) : DE L G n X (.Call (.Attribute o m apos) [] [] pos) (.meth k io []) := de_meth0 hm ho ht
theorem make_ {k : Nat} {cd : ClD} (hm : X.mg x = some (.ref (L.CA k))) (ha : DA L G n X (e :: es) ies) (hC : G.cl k = some cd := by rfl) (hg : Gl X x := by rfl) (hdb : (x == ("__debug__" : Str)) = false := by decide)
    (he : starEach (e :: es) X.env = (false, eval e X.env) :: starEach es X.env := by rfl) (hpl : (backTo pos (starEach es X.env)).any (·.1) = false := by rfl) : DE L G n X (.Call (.Name x p) (e :: es) [] pos) (.make k ies) := de_make hC hg hm ha hdb he hpl
theorem s_put {C i : Nat} {cd : ClD} (hf : (L.FN C)[i]? = some f) (he : DE L G n X e ie) (ho : DE L G n X o io) (hC : G.cl C = some cd := by rfl) (hs : swapsWith e (some (.Attribute o f p)) pos.line X.env = pure false := by rfl) : DS L G n X (.Assign [.Attribute o f p] e pos) (.put C i io ie) := ds_put hC hf he ho hs
theorem ptl_ (hm : X.mg "tuple" = none) (ha : DE L G n X a ia) (hg : Gl X "tuple" := by rfl) (he : starEach [a] X.env = (false, eval a X.env) :: starEach [] X.env := by rfl) (hpl : (backTo pos (starEach [] X.env)).any (·.1) = false := by rfl) : DE L G n X (.Call (.Name "tuple" p) [a] [] pos) (.ptl ia) := de_ptl hg hm ha he hpl
/-- what is known of an exception's class -/
structure ExT (L : Lk) (mg : Str → Option Value) (x : Str) (i : Nat) : Prop where
  ex : ∃ C, L.XV i = .ref C ∧ ExC' L.K C ∧ mg x = some (.ref C)
theorem rais_ {i : Nat} {pos' : Pos} (T : ExT L X.mg x i) (hg : Gl X x := by rfl) (hdb : (x == ("__debug__" : Str)) = false := by decide) : DS L G n X (.Raise (some (.Call (.Name x p) [] [] pos)) none pos') (.rais i) := let ⟨_, h1, h2, h3⟩ := T.ex; ds_raiseP h1 h2 h3 hg hdb

theorem ds_setLcF {j : Nat} {k : SrcK} {it : IT} {tg iter elt : Expr} {ifs : List Expr} {scope : Scope} {own : List (Str × Nat)} {cpos : Pos} (hy : X.N[j]? = some x) (hyl : X.env.scope.names.lookup x = some .local) (hsw : swapsWith (.ListComp elt [⟨tg, iter, ifs, 0⟩] scope cpos) (some (.Name x p)) pos.line X.env = pure true)
    (hi : DI L G n X tg iter k ies) (ok : BlkOk X.N X.env.scope scope own) (hvs : ∀ i ∈ slots t, i ∈ own.map (·.2))
    (hg : ∀ (s : Shared) (H : Hp) (C : Addr) (cl : List (Str × Addr)) (fp : List Addr), DG L G n (X.blk s H scope (compEnvC scope cl C X.env) fp) tg t)
    (ht : ∀ (s : Shared) (H : Hp) (C : Addr) (cl : List (Str × Addr)) (fp : List Addr), DTs L G n (X.blk s H scope (compEnvC scope cl C X.env) fp) ifs it)
    (he : ∀ (s : Shared) (H : Hp) (C : Addr) (cl : List (Str × Addr)) (fp : List Addr), DE L G n (X.blk s H scope (compEnvC scope cl C X.env) fp) elt ie)
    (hs : ∀ x, foldedSetIterable iter X.env x = pure x) : DS L G n X (.Assign [.Name x p] (.ListComp elt [⟨tg, iter, ifs, 0⟩] scope cpos) pos) (.set j (.fz (.comp k ies (own.map (·.2)) t it ie))) := fun C po W tk =>
  ps_imp (ps_setLc (own := own) C.calm C.nd hy hyl hsw (hi C W tk) ok (fun s H c cl fp => hg s H c cl fp (C.blk _ _ _ _ _)) (fun s H c cl fp => ht s H c cl fp (C.blk _ _ _ _ _) W0 takes0) (fun s H c cl fp => he s H c cl fp (C.blk _ _ _ _ _) W0 takes0) hs)
    fun D σ H ⟨N, δ, A, P, rs, ra, h, hn, hr, hc, hx⟩ => tlc_of hvs (wpE (callN G n) G ie) (wpT (callN G n) G it) (wpEs (callN G n) G ies)
      ⟨N, δ, A, fun x A1 => dFz x A1 fun y A2 => P.nx (δ.set j (some y)) A2, _, rs, ra, h, fun d A1 v1 H1 rv1 ra1 ex1 q1 => fz_of (Q := fun v H2 => D.nx (σ.set j (some v)) H2) q1 ra1 rv1 fun d2 A2 v2 H2 r1 r2 e2 q2 => hn _ A2 _ H2 ((rs.stay ((ex1.trans e2).stay ra)).set r1 j) r2 (ex1.trans e2) q2, exq rs ra hx⟩ fun R q => q
theorem slf_ {j : Nat} {k : SrcK} {it : IT} {tg iter elt : Expr} {ifs : List Expr} {scope : Scope} {cpos : Pos} (own : List (Str × Nat)) (hi : DI L G n X tg iter k ies)
    (hg : ∀ (s : Shared) (H : Hp) (C : Addr) (cl : List (Str × Addr)) (fp : List Addr), DG L G n (X.blk s H scope (compEnvC scope cl C X.env) fp) tg t)
    (ht : ∀ (s : Shared) (H : Hp) (C : Addr) (cl : List (Str × Addr)) (fp : List Addr), DTs L G n (X.blk s H scope (compEnvC scope cl C X.env) fp) ifs it)
    (he : ∀ (s : Shared) (H : Hp) (C : Addr) (cl : List (Str × Addr)) (fp : List Addr), DE L G n (X.blk s H scope (compEnvC scope cl C X.env) fp) elt ie)
    (ok : BlkOk X.N X.env.scope scope own) (hsw : swapsWith (.ListComp elt [⟨tg, iter, ifs, 0⟩] scope cpos) (some (.Name x p)) pos.line X.env = pure true) (hy : X.N[j]? = some x := by rfl) (hyl : X.env.scope.names.lookup x = some .local := by rfl)
    (hvs : ∀ i ∈ slots t, i ∈ own.map (·.2) := by decide) (hs : ∀ x, foldedSetIterable iter X.env x = pure x := by intro _; rfl) : DS L G n X (.Assign [.Name x p] (.ListComp elt [⟨tg, iter, ifs, 0⟩] scope cpos) pos) (.set j (.fz (.comp k ies (own.map (·.2)) t it ie))) := ds_setLcF hy hyl hsw hi ok hvs hg ht he hs
/-- a statement while a dict is locked -/
theorem ds_lk {st : Stmt} {i : IS} (h : DS L G n X st i) : DS L G n X st (.lks i) := fun C po W tk =>
  ps_imp (ps_lock (h C po (fun _ _ _ _ => False) takes0)) fun D σ H ⟨N, δ, A, P, rs, ra, h, hn, hr, hc, hx⟩ => by
    obtain ⟨q, kvs, e, h⟩ := h
    obtain ⟨ws, h1, h2⟩ := ra q _ e
    refine ⟨q, .dK ws, h1, trivial, fun od => ?_⟩
    have ex1 : Ext A H (up A q (.dkl kvs (.frz od (.dK ws)))) (upd H q (.frz od (.dK ws))) := Ext.put e
    have ra1 : RA L (up A q (.dkl kvs (.frz od (.dK ws)))) N (upd H q (.frz od (.dK ws))) := ra.put e ⟨upd_same, od, ws, rfl, h2.stay (ex1.stay ra)⟩
    have fin : ∀ {A2 : AH} {H2 : Hp}, RA L A2 N H2 → Ext (up A q (.dkl kvs (.frz od (.dK ws)))) (upd H q (.frz od (.dK ws))) A2 H2 → A2 q = some (.dkl kvs (.frz od (.dK ws))) →
        H2 q = some (.frz od (.dK ws)) ∧ RA L (up A2 q (.dk kvs)) N (upd H2 q (.dK ws)) ∧ Ext A2 H2 (up A2 q (.dk kvs)) (upd H2 q (.dK ws)) ∧ Ext A H (up A2 q (.dk kvs)) (upd H2 q (.dK ws)) := fun {A2 H2} ra2 ex2 e2 => by
      obtain ⟨h3, o', ws', h4, h5⟩ := ra2 q _ e2
      have h6 : ws = ws' := by injection h4 with _ h4; injection h4
      subst h6
      have ex3 : Ext A2 H2 (up A2 q (.dk kvs)) (upd H2 q (.dK ws)) := Ext.put e2
      exact ⟨h3, ra2.put e2 ⟨ws, upd_same, h5.stay (ex3.stay ra2)⟩, ex3, (ex1.trans ex2).trans ex3⟩
    refine ⟨N, δ, _, _, rs.stay (ex1.stay ra), ra1, h _, fun δ' A2 σ' H2 rs2 ra2 ex2 q2 => ?_, fun d A2 v H2 rv2 ra2 ex2 q2 => ?_, fun δ' A2 σ' H2 rs2 ra2 ex2 q2 => ?_, fun _ _ _ _ _ _ _ _ z => z⟩
    · obtain ⟨a1, a2, a3, a4⟩ := fin ra2 ex2 q2.1
      exact ⟨a1, hn _ _ _ _ (rs2.stay (a3.stay ra2)) a2 a4 q2.2⟩
    · obtain ⟨a1, a2, a3, a4⟩ := fin ra2 ex2 q2.1
      exact ⟨a1, hr _ _ _ _ (RV.stay (a3.stay ra2) _ _ rv2) a2 a4 q2.2⟩
    · obtain ⟨a1, a2, a3, a4⟩ := fin ra2 ex2 q2.1
      exact ⟨a1, hc _ _ _ _ (rs2.stay (a3.stay ra2)) a2 a4 q2.2⟩
/-! ### try -/
structure ExN (L : Lk) (mg : Str → Option Value) (x : Str) (xs : List Nat) : Prop where
  ex : ∃ c, mg x = some c ∧ ∀ i ∈ xs, PySem.W.exmOne L.K (L.XV i) c = some true
theorem try_ {body suite : List Stmt} {b₀ : Stmt} {np pos' : Pos} {iss jss : List IS} {xs : List Nat} (T : ExN L X.mg x xs) (hb : ∀ (pn : List (Addr × Obj)) (xe : Value → Shared → Prop), DSs L G n (X.tr pn xe) body iss) (hq : DQt L G n X (b₀ :: suite) jss) (hs : X.stack = X.env :: X.outer := by rfl) (hf : X.env.frame = some X.env.locals := by rfl) (hg : Gl X x := by rfl) (hdb : (x == ("__debug__" : Str)) = false := by decide) :
    DS L G n X (.Try body [.ExceptHandler (some (.Name x np)) none (b₀ :: suite) pos'] [] [] pos) (.tryx iss xs jss) := let ⟨_, h1, h2⟩ := T.ex; ds_try hs hf ⟨hg, hdb, .inl h1⟩ h2 hb hq
theorem qset_ {b : Expr} {j : Nat} {q v : Pos} {d : D} {w : V} (hb : ∀ X', PE X' b (tC w)) (hd : ∀ K A N H, RV K A N H d w) (hj : X.N[j]? = some y := by rfl) (hl : Loc X.env.scope y := by first | exact Or.inl rfl | exact Or.inr rfl) (hs : swapsWith b (some (.Name y q)) v.line X.env = pure false := by rfl) (hf : X.fn y = true ∨ X.env.scope.names.lookup y = some .local := by first | exact .inl rfl | exact .inr rfl) : DQt L G n X [.Assign [.Name y q] b v] [.set j (.cst d)] := dqt_set hb hd hj hl hs hf
theorem qinc_ {j : Nat} {i : Int} {k : Nat} {q q1 q2 q3 v : Pos} (hj : X.N[j]? = some y := by rfl) (hl : Loc X.env.scope y := by first | exact Or.inl rfl | exact Or.inr rfl) (hv : Vis X.env.scope y := by first | exact Or.inl rfl | exact Or.inr (Or.inl rfl) | exact Or.inr (Or.inr rfl)) (hd : (y == ("__debug__" : Str)) = false := by decide) (hcd : (y == ("__classdict__" : Str)) = false := by decide) (hs : swapsWith (.BinOp (.Name y q1) .Add (.Constant (.int i) k q2) q3) (some (.Name y q)) v.line X.env = pure false := by rfl) (hf : X.fn y = true ∨ X.env.scope.names.lookup y = some .local := by first | exact .inl rfl | exact .inr rfl) :
    DQt L G n X [.Assign [.Name y q] (.BinOp (.Name y q1) .Add (.Constant (.int i) k q2) q3) v] [.set j (.bin .add (.var j) (.cst (.int i)))] := dqt_inc hj hl hv hd hcd hs hf
end
end DL
namespace DL
def ClsD (R : Nat → ClD → Prop) : List (Nat × ClD) → Prop
  | [] => True
  | (c, d) :: t => R c d ∧ ClsD R t
theorem clsD_get {R : Nat → ClD → Prop} : ∀ {t : List (Nat × ClD)}, ClsD R t → ∀ c d, t.lookup c = some d → R c d
  | [], _, _, _, h => by simp at h
  | (c', d') :: t, h, c, d, e => by
    rw [List.lookup_cons] at e
    by_cases q : c = c'
    · subst q; simp at e; subst e; exact h.1
    · rw [beq_eq_false_iff_ne.mpr q] at e
      exact clsD_get h.2 c d e
def ClMs (R : Nat → Nat → Prop) : List (Nat × Nat) → Prop
  | [] => True
  | (c, d) :: t => R c d ∧ ClMs R t
theorem clMs_get {R : Nat → Nat → Prop} : ∀ {t : List (Nat × Nat)}, ClMs R t → ∀ c d, t.lookup c = some d → R c d
  | [], _, _, _, h => by simp at h
  | (c', d') :: t, h, c, d, e => by
    rw [List.lookup_cons] at e
    by_cases q : c = c'
    · subst q; simp at e; subst e; exact h.1
    · rw [beq_eq_false_iff_ne.mpr q] at e
      exact clMs_get h.2 c d e
theorem exm_own {K : PySem.W.Frag} {C : PySem.Addr} (hb : PySem.W.subIn K (PySem.Value.ref C) (PySem.Value.type "BaseException") = some true) (hi : PySem.W.isClsIn K C = true) (ht : PySem.W.typeIn K (PySem.Value.ref C) = some (PySem.Value.type "type")) (hs : PySem.W.subIn K (PySem.Value.ref C) (PySem.Value.ref C) = some true) : PySem.W.exmOne K (PySem.Value.ref C) (PySem.Value.ref C) = some true := by
  unfold PySem.W.exmOne
  rw [hb, if_pos (by decide)]
  show (if ((PySem.W.clsIn K C).isSome && PySem.W.typeIn K (PySem.Value.ref C) == some (PySem.Value.type "type")) = true then PySem.W.subIn K (PySem.Value.ref C) (PySem.Value.ref C) else none) = some true
  rw [show (PySem.W.clsIn K C).isSome = true from hi, ht, if_pos (by decide)]
  exact hs
end DL

set_option Elab.async false
set_option linter.all false
set_option maxRecDepth 100000
namespace DL
open PySem PySem.Spec PyProof.Rows L2
/-! ### sorted(set(xs)) -/
/-- a set that holds nothing yet -/
abbrev set0 (w : World) : Obj := { cls := .type "set", dict := none, data := .set #[] 0 (.fresh 0 0 (!w.params.followText "set-order")) }
section
variable {P : Program} {w : World} {A : Around} {E : Value → Shared → Prop} {s : Shared}
set_option maxHeartbeats 3200000 in
theorem set_of_list {l : Addr} {its : Array Value} (ns : List Int) {Q : Value → Shared → Prop} (hh : A.handled = none) (hl : s.heap.IsList l its) (hit : IntsAre its.toList ns) (hb : ns.length + 1 < scanBound)
    (h : ∀ (g : Heap) (tk c : Nat), SetR w g s.heap.objs.size (fun j => decide (j ∈ ns)) c → (∀ b o, s.heap.get? b = some o → g.get? b = some o) → Q (.ref s.heap.objs.size) { s with heap := g, toks := tk }) :
    wpAny (model P w) A (call (.type "set") [.ref l]) Q E s := by
  have size : its.size = ns.length := by
    have e := IntsAre.length hit
    rwa [Array.length_toList] at e
  obtain ⟨_, _, hmro⟩ := F.called_set.mro
  have made := F.called_set.made
  have sub := F.called_set.sub
  refine wpAny_call (codeAny_of_tree ?_)
  show wpAny _ _ (callAny (.type "set") _) _ _ _
  refine wpAny_pure ⟨Code.quiet_builtin _ (by decide +kernel), codeAny_builtin F.entry_type_call ?_⟩
  rw [Around.under_plain (weight_type_call_type "set" [.ref l] []) rfl]
  have c1 := F.called_set.notType
  have c2 := F.called_set.canCreate
  have c3 := F.typeCall_set_1 (.ref l)
  repeat (any_goals (first | assumption | wp_step))
  refine codeAny_mono (code_set_led1 (.ref l) (E := E) (Q₁ := fun ob s1 => ob = .ref s.heap.objs.size ∧ s1 = { s with heap := s.heap.push (set0 w) }) ⟨rfl, rfl⟩) fun r s1 hr => ?_
  cases r with
  | error e => exact hr
  | ok fl =>
    cases fl with
    | ret ob =>
      obtain ⟨rfl, rfl⟩ := hr
      have atS : (s.heap.push (set0 w)).get? s.heap.objs.size = some (set0 w) := Heap.get?_push_size _ rfl
      have isS : Shared.TypeIs { s with heap := s.heap.push (set0 w) } (.ref s.heap.objs.size) "set" := ⟨_, atS, rfl⟩
      have c4 := F.called_set.init.lookup
      have c5 := F.called_set.init.bind (.ref s.heap.objs.size)
      repeat (any_goals (first | assumption | wp_step))
      refine codeAny_mono (codeAny_call_builtin (R := wants (fun r s2 => r = .none ∧ ∃ g tk c, s2 = { s with heap := g, toks := tk } ∧ SetR w g s.heap.objs.size (fun j => decide (j ∈ ns)) c ∧
          ∀ b o, s.heap.get? b = some o → g.get? b = some o) E) F.called_set.init.plain F.entry_set_init (check_set_init_1 isS ?_)) fun r2 s2 hr2 => ?_
      · obtain ⟨⟨ocls, odict, odata, oslots⟩, hol, hcl, nl, hdl⟩ := hl
        simp only at hcl hdl
        subst hcl hdl
        have hol' : (s.heap.push (set0 w)).get? l = some { cls := .type "list", dict := odict, data := .seq its nl, slots := oslots } := Heap.get?_push_of_some _ hol
        have d1 := F.sub_list_set
        have d2 := F.sub_list_frozenset
        have d3 : (Value.type "list" == Value.type "dict") = false := by decide
        have isL : (s.heap.push (set0 w)).IsList l its := ⟨_, hol', rfl, nl, rfl⟩
        unfold Builtin.«set.__init__» noKeywords Builtin.Frozenset.updateFrom
        generalize hPI : pyIter = PI
        wp_walk
        subst hPI
        refine wpAny_pyIter_list isL ?_
        refine wpAny_bind (wpAny_runValue ?_)
        have ll : l < s.heap.objs.size := Heap.lt_size hol
        have calm : A.in1.in1.in1.handled = none := by simp [hh]
        have big : (s.heap.push (set0 w)).objs.size = s.heap.objs.size + 1 := Heap.size_push ..
        have nI : l ≠ (s.heap.push (set0 w)).objs.size := by rw [big]; exact Nat.ne_of_lt (Nat.lt_succ_of_lt ll)
        have nS : s.heap.objs.size ∉ [(s.heap.push (set0 w)).objs.size, l] := by
          rw [big]
          simp only [List.mem_cons, List.not_mem_nil, or_false, not_or]
          exact ⟨Nat.ne_of_lt (Nat.lt_succ_self _), Nat.ne_of_gt ll⟩
        have val : ∀ (i : Nat) (v : Value), its[i]? = some v → ∃ k t, ns[i]? = some k ∧ v = .int k t := fun i v hv => by
          have hi : i < ns.length := by rw [← size]; exact (Array.getElem?_eq_some_iff.mp hv).1
          obtain ⟨t, e⟩ := PyProof.Rows.IntsAre.int_at hit i v (by rw [Array.getElem?_toList]; exact hv)
          exact ⟨ns[i], t, List.getElem?_eq_getElem hi, by rw [e, List.getD_eq_getElem?_getD, List.getElem?_eq_getElem hi] <;> rfl⟩
        refine set_update_ints ((Walks.list calm _ l nI its).toS) s.heap.objs.size nS ns size hb val (its.size - 0) 0 _ (by omega) (Nat.zero_le _)
          ⟨⟨_, Heap.get?_push_size _ rfl, rfl, rfl⟩, (isL.push _)⟩ ?start ?done
        case start => exact ⟨0, Nat.le_refl 0, setR_new_at (Heap.get?_push_of_some _ atS)⟩
        case done =>
          intro s' c' mvd hc' isR
          obtain ⟨g, g2, dr, tk, os⟩ := s'
          have e1 : g2 = s.gens := mvd.gens
          have e2 : dr = s.drawn := mvd.drawn
          have e3 : os = s.os := mvd.os
          subst e1 e2 e3
          show wpAny _ _ _ _ _ _
          refine wpAny_pure ?_
          show wpAny _ _ (ret Value.none) _ _ _
          refine wpAny_pure ⟨rfl, g, tk, c', rfl, isR, fun b o e => ?_⟩
          have lb : b < s.heap.objs.size := Heap.lt_size e
          refine mvd.heap b o ?_ (Heap.get?_push_of_some _ (Heap.get?_push_of_some _ e))
          rw [big]
          simp only [List.mem_cons, List.not_mem_nil, or_false, not_or]
          exact ⟨Nat.ne_of_lt lb, Nat.ne_of_lt (Nat.lt_succ_of_lt lb)⟩
      · cases r2 with
        | error e => exact hr2
        | ok f2 =>
          cases f2 with
          | ret r =>
            obtain ⟨rfl, g, tk, c, rfl, k1, k2⟩ := hr2
            repeat (any_goals (first | assumption | wp_step))
            exact h _ _ _ k1 k2
          | _ => exact hr2.elim
    | _ => exact hr.elim
end
end DL

set_option Elab.async false
set_option linter.all false
set_option maxRecDepth 100000
/-! sorted(d.items()) -/
namespace DL
open PySem PySem.Spec PyProof.Rows L2
section
variable {P : Program} {w : World} {A : Around} {E : Value → Shared → Prop} {s : Shared}
/-- sorted(x), by what x's things are in the heap they are gathered in -/
theorem sorted_gen {x : Addr} {good : Heap → List Value → Prop} {lt : Heap → Value → Value → Bool} {Q : Value → Shared → Prop}
    (hO : ∀ g, SrtO.Swo (lt g))
    (gather : ∀ R : List Value → Shared → Prop, (∀ (s1 : Shared) (us : List Value), (∀ b o, s.heap.get? b = some o → s1.heap.get? b = some o) → s1.gens = s.gens → s1.os = s.os → good s1.heap us → R us s1) → wpAny (model P w) A.in1 (collect (.ref x)) R E s)
    (few : ∀ g us, good g us → us.length ≤ sizeLine)
    (cmp : ∀ (s1 : Shared) (us : List Value) (b : PySem.Addr), good s1.heap us → 2 ≤ us.length → s1.heap.objs.size = b → SrtO.SortableO P w A.in1.in1 { s1 with heap := s1.heap.push (seqObj "list" us.toArray 0) } b us (lt s1.heap))
    (q : ∀ (s1 : Shared) (g2 : Heap) (us out : List Value) (e : Nat) (b : PySem.Addr), good s1.heap us → (∀ b o, s.heap.get? b = some o → s1.heap.get? b = some o) → s1.gens = s.gens → s1.os = s.os → (∀ b o, s1.heap.get? b = some o → g2.get? b = some o) → SrtO.Srtd (lt s1.heap) out → SrtO.Stb (lt s1.heap) out us → s1.heap.objs.size ≤ b → g2.get? b = some (seqObj "list" out.toArray e) → Q (.ref b) { s1 with heap := g2 }) :
    wpAny (model P w) A (call (.builtin "sorted") [.ref x]) Q E s := by
  refine Calls.call_function_entry kind_sorted plain_sorted entry_sorted (args_sorted1 _) ?_
  unfold Builtin.«sorted»
  refine wpAny_bind (m := checkCount "sorted" 1 1 _) (wpAny_pure (wpAny_bind (gather _ fun s1 us keep eg eo hg => ?_)))
  have hz := few s1.heap us hg
  refine wpAny_bind (wpAny_newList ?_ hz)
  have at0 : (s1.heap.push (seqObj "list" us.toArray 0)).get? s1.heap.objs.size = some (seqObj "list" us.toArray 0) := Heap.get?_push_size _ rfl
  show wpAny _ _ _ _ _ { s1 with heap := s1.heap.push (seqObj "list" us.toArray 0) }
  refine wpAny_bind (wpAny_holding (wpAny_call_entry slot_list_sort ⟨_, at0, rfl⟩ entry_list_sort
    (SrtO.list_sort_ord (s := { s1 with heap := s1.heap.push (seqObj "list" us.toArray 0) }) (hO s1.heap) at0 hz (fun h2 => cmp s1 us _ hg h2 rfl) fun out g1 g2 => ⟨_, rfl, ?_⟩) (args_list_sort _)))
  obtain ⟨ep, he⟩ := PyProof.Rows.sortedHeap_at (vs := us) (out := out.toArray) at0
  refine wpAny_pure ⟨_, rfl, q s1 _ us out ep s1.heap.objs.size hg keep eg eo (fun b u e => ?_) g1 g2 (Nat.le_refl _) he⟩
  have hb : b < s1.heap.objs.size := Heap.lt_size e
  rw [PyProof.Rows.sortedHeap_old (Nat.ne_of_lt hb) (by rw [size_push']; exact Nat.lt_succ_of_lt hb)]
  exact Heap.get?_push_of_some _ e
theorem state_is {s s1 : Shared} (eo : s1.os = s.os) : s1 = { s with heap := s1.heap, gens := s1.gens, drawn := s1.drawn, toks := s1.toks } := by
  cases s1; cases s; cases eo; rfl
end
section
variable {X : Cx}
/-- tuples of a dict's items, laid -/
theorem tups_laid {pins : List (Addr × Obj)} {σ : L2.St} {H : Hp} {s s2 : Shared} {kvs : List (Key × V)} {us : List (Key × Value)} {lo : Addr} {ts : List Addr} (I : Inv X pins σ H s) (kv : KV kvs us)
    (keep : ∀ b o, s.heap.get? b = some o → s2.heap.get? b = some o) (eg : s2.gens = s.gens) (eo : s2.os = s.os) (low : s.heap.objs.size ≤ lo) (len : ts.length = us.length) (made : PySem.W.KdxG (mixKind X.prog X.w) us lo s2.heap ts) :
    ∃ H' : Hp, (∀ b o, H b = some o → H' b = some o) ∧ Paired (fun (t : Addr) (p : Key × V) => H' t = some (.tup [kV p.1, p.2])) ts kvs ∧ Inv X pins σ H' s2 := by
  have same : kvs.length = us.length := Paired.length kv
  have once : ts.Nodup := made.rise.imp fun {a b} (h : a < b) => Nat.ne_of_lt h
  have fresh : ∀ t ∈ ts, H t = none := fun t ht => I.hok.fresh (Nat.le_trans low (Nat.le_of_lt (made.above t ht)))
  have there := LiI.putT_at ts kvs H (len.trans same.symm) once
  have away : ∀ b, b ∉ ts → LiI.putT H ts kvs b = H b := fun b => LiI.putT_off ts kvs H
  have old : ∀ b o, s.heap.get? b = some o → b ∉ ts := fun b o e ht =>
    absurd (Heap.lt_size e) (Nat.not_lt.mpr (Nat.le_trans low (Nat.le_of_lt (made.above b ht))))
  have ext : ∀ b u, H b = some u → LiI.putT H ts kvs b = some u := fun b u e => by
    rw [away b fun ht => by rw [fresh b ht] at e; cases e]; exact e
  refine ⟨LiI.putT H ts kvs, ext, there, ?_⟩
  refine I.call' (ch := []) eo ⟨fun b o q _ _ _ => keep b o q, fun b o q _ _ _ => ⟨o.slots, keep b o q⟩, fun b o q n _ => (away b (old b o q)).trans n, fun b o q _ => ⟨o, keep b o q⟩, fun b xs q => ext b _ q, fun b o u q => ext b _ q, fun b ps q => ⟨#[], by rw [ext b _ q]; simp⟩⟩ (fun b u q => ?_) (by rw [eg]; exact I.bare) fun b z => by simp at z
  by_cases hb : b ∈ ts
  · obtain ⟨j, p, e1, e2, e3⟩ := LiI.paired_ix there hb
    rw [e3] at q; cases q
    obtain ⟨key, k, v, f1, f2, f3⟩ := made.pairs j b e1
    obtain ⟨_, g1, g2, g3⟩ := LiI.paired_get kv e2
    rw [f1] at g1; cases g1
    exact ⟨by show 2 ≤ sizeLine; decide, [key, v], .cons (by rw [g2]; exact relV_key (show keyIs k key = true from f2)) (.cons g3 .nil), ⟨_, f3, rfl, _, rfl⟩⟩
  · rw [away b hb] at q
    exact (I.hok b u q).stay (fun d v _ y => keep d v y) (fun d y => ext d _ y) fun d xs y => ext d _ y
/-- sorted(d.items()), ints by ints -/
def rSItems : V → Hp → VK → Prop := fun x H Q => ∃ (d : Addr) (ps : List (Int × Int)), x = .ref d ∧ H d = some (.dK (ps.map fun p => ((Sum.inl p.1 : Key), V.int p.2))) ∧
  ∀ (H' : Hp) (ys : List V) (b : Addr), (∀ b o, H b = some o → H' b = some o) → Paired (kP X.K H') ys (sortP ps) → H' b = none → Q (.ref b) (upd H' b (.lst ys))
end
def tSItems (K : PySem.W.Frag) (te : TE) : TE := fun σ H Q => te σ H fun x H1 => ∃ (d : Addr) (ps : List (Int × Int)), x = .ref d ∧ H1 d = some (.dK (ps.map fun p => ((Sum.inl p.1 : Key), V.int p.2))) ∧
  ∀ (H' : Hp) (ys : List V) (b : Addr), (∀ b o, H1 b = some o → H' b = some o) → Paired (kP K H') ys (sortP ps) → H' b = none → Q (.ref b) (upd H' b (.lst ys))
theorem pairs_of {K : PySem.W.Frag} {g : Heap} {H' : Hp} : ∀ {ts : List Addr} {ps : List (Int × Int)}, (∀ t, (∃ x ∈ ts, x = t) → ∀ i j, H' t = some (.tup [.int i, .int j]) → Srt.IsPair g (.ref t) i j) → Paired (fun (t : Addr) (p : Key × V) => H' t = some (.tup [kV p.1, p.2])) ts (ps.map fun p => ((Sum.inl p.1 : Key), V.int p.2)) →
    (ts.map Value.ref).map (kH g) = ps ∧ ∀ u ∈ ts.map Value.ref, Srt.IsPair g u (kH g u).1 (kH g u).2 ∧ kP K H' (backV u) (kH g u)
  | [], [], _, _ => ⟨rfl, fun u h => by cases h⟩
  | [], _ :: _, _, h => by cases h
  | _ :: _, [], _, h => by cases h
  | t :: ts, p :: ps, hp, .cons h1 h2 => by
    obtain ⟨e1, e2⟩ := pairs_of (K := K) (fun t ⟨x, hx, e⟩ => hp t ⟨x, List.mem_cons_of_mem _ hx, e⟩) h2
    have ip := hp t ⟨t, List.mem_cons_self, rfl⟩ p.1 p.2 h1
    have ek := kH_of ip
    refine ⟨by rw [List.map_cons, List.map_cons, e1, ek], fun u hu => ?_⟩
    rw [List.map_cons] at hu
    rcases List.mem_cons.mp hu with e | hu
    · subst e; rw [ek]; exact ⟨ip, t, rfl, SqT.of h1⟩
    · exact e2 u hu
section
variable {X : Cx} {e : Expr} {te : TE} {p apos cpos pos : Pos}
theorem pe_sitems (hc : X.calm = true) (he : PE X e te) (hg : Gl X "sorted") (hm : X.mg "sorted" = none) (hbase : attributeBase e "items" X.env (eval e X.env) = eval e X.env := by rfl) (hline : (apos.endLine == cpos.line) = true := by rfl)
    (hs : starEach [.Call (.Attribute e "items" apos) [] [] cpos] X.env = (false, eval (.Call (.Attribute e "items" apos) [] [] cpos) X.env) :: starEach [] X.env := by rfl) :
    PE X (.Call (.Name "sorted" p) [.Call (.Attribute e "items" apos) [] [] cpos] [] pos) (tSItems X.K te) := by
  refine ⟨fun pins s σ H Q I hq => ?_⟩
  refine Call_ (ld_blt I hg hm (show bootBuiltins "sorted" = some (.builtin "sorted") by decide +kernel) ?_)
  refine PyProof.Rows.callWith_builtin1 (PyProof.Rows.args_cons ?_ hs) hs rfl
  refine wpAny_Call_method (T := "dict") (id := "dict.items") hbase rfl hline F.plainAttrs_dict F.slot_dict_items F.type_dict_items (thn (he.run pins s σ H _ I hq) fun u s1 ⟨x, H1, I1, rx, d, ps, ex, hd, q⟩ => ?_)
  subst ex
  cases rx
  obtain ⟨hz, hs0, us, kv, hdo⟩ := I1.hok d _ hd
  obtain ⟨ep, hat⟩ := hdo.dictAt
  have same := Paired.length kv
  rw [List.length_map] at same hz
  have I2 : Inv X pins σ H1 { s1 with heap := s1.heap.push { cls := .type "dict_items", data := .fields #[.ref d] } } := I1.kept (t' := s1.toks) fun b ob z => Heap.get?_push_of_some _ z
  refine ⟨hdo.typeIs, hdo.mapOf.noDict, ?_⟩
  show wpAny _ _ (callWith cpos (.builtin "dict.items") [.ref d] [] []) _ X.xe s1
  refine method_meetsIn F.slot_dict_items F.entry_dict_items rfl (PySem.evalArgs_none ⟨rfl, hdo.typeIs, F.args_dict_items_1 _, _, meets_dict_items (mixKind X.prog X.w) d hs0, ⟨us, hdo⟩, ?_⟩)
  refine PyProof.Rows.args_nil ?_
  refine sorted_gen (good := fun g zs => zs.length = ps.length ∧ zs.map (kH g) = ps ∧ (∀ z ∈ zs, ∃ b, z = Value.ref b) ∧ (∀ z ∈ zs, Srt.IsPair g z (kH g z).1 (kH g z).2) ∧ ∃ H' : Hp, (∀ b o, H1 b = some o → H' b = some o) ∧ (∀ z ∈ zs, kP X.K H' (backV z) (kH g z)) ∧ HOk X.prog X.w H' g ∧ ∃ s2 : Shared, s2.gens = s1.gens ∧ s2.os = s1.os ∧ s2.heap = g ∧ Inv X pins σ H' s2)
    (lt := fun g v u => SrtO.lexB (kH g v) (kH g u)) (fun g => SrtO.swo_lex (kH g)) (fun R k => ?_) (fun g zs hg => ?_) (fun sg zs b hg h2 hb => ?_) (fun sg g2 zs out ep b hg keep eg eo keep2 h1 h2 hb at2 => ?_)
  · refine PySem.W.kdx_collect (knd := mixKind X.prog X.w) (kvs := us) (ep := ep) (I2.ok.hd hc) ⟨_, Heap.get?_push_size _ rfl, rfl, rfl⟩ (hat.push _) (by rw [← same]; exact hz) fun g tk ts keep len made => ?_
    refine k { s1 with heap := g, toks := tk } (ts.map Value.ref) keep rfl rfl ?_
    obtain ⟨H', e1, e2, J⟩ := tups_laid (s2 := { s1 with heap := g, toks := tk }) I2 kv keep rfl rfl (Nat.le_refl _) len made
    obtain ⟨f1, f2⟩ := pairs_of (K := X.K) (g := g) (H' := H') (ts := ts) (ps := ps) (fun t _ i j ht => by
      obtain ⟨_, its2, rr, o, ho, hcl, n, hda⟩ := J.hok t _ ht
      obtain ⟨u1, u2, rfl, ⟨t1, rfl⟩, ⟨t2, rfl⟩⟩ := Vals.two rr
      exact ⟨t, o, t1, t2, n, rfl, ho, hcl, hda⟩) e2
    exact ⟨by rw [List.length_map, len, same], f1, fun z hz => by obtain ⟨t, _, rfl⟩ := List.mem_map.mp hz; exact ⟨t, rfl⟩, fun z hz => (f2 z hz).1, H', e1, fun z hz => (f2 z hz).2, J.hok, { s1 with heap := g, toks := tk }, rfl, rfl, rfl, J⟩
  · rw [hg.1]; exact hz
  · subst hb
    refine SrtO.pairs_sortableO (by omega) (fun z hz => (hg.2.2.2.1 z hz).keeps fun b o e _ => Heap.get?_push_of_some _ e) fun o e => ?_
    have e' : some o = some (seqObj "list" zs.toArray 0) := e.symm.trans (Heap.get?_push_size _ rfl)
    cases e'
    intro c
    exact absurd (Value.type.inj c) (by decide)
  · obtain ⟨hl, hm2, hr, hp, H', e1, e2, ok, s2, eg2, eo2, eh2, J⟩ := hg
    have J : Inv X pins σ H' sg := J.call' (ch := []) (s' := sg) (eo.trans eo2.symm) (Un.kept fun b o z => by rw [eh2] at z; exact z) ok (by rw [eg]; exact I2.bare) fun b z => by simp at z
    have h3 : ∀ u ∈ out, u ∈ zs := fun u hu => h2.perm.mem_iff.mp hu
    have es : out.map (kH sg.heap) = sortP ps := by
      refine sortP_eq (by rw [← hm2]; exact h2.perm.map _) ?_
      refine List.pairwise_map.mpr (h1.imp fun {x y} h => ?_)
      have h := SrtO.lexB_no.mp h
      rw [leP_iff]
      omega
    have pr : ∀ us : List Value, (∀ u ∈ us, u ∈ zs) → Paired (kP X.K H') (us.map backV) (us.map (kH sg.heap)) := by
      intro us
      induction us with
      | nil => intro _; exact .nil
      | cons u r ih => intro h; exact .cons (e2 u (h u List.mem_cons_self)) (ih fun v hv => h v (List.mem_cons_of_mem _ hv))
    refine ⟨.ref b, _, J.laid (t' := sg.toks) (o := .lst (out.map backV)) keep2 hb ⟨?_, out, ep, vals_back fun u hu => hr u (h3 u hu), at2⟩, rfl, q H' _ b e1 (by rw [← es]; exact pr out h3) (J.hok.fresh hb)⟩
    rw [List.length_map, h2.perm.length_eq, hl]
    exact hz
end
theorem dd_mem : ∀ (l : List Int) (x : Int), x ∈ ddI l ↔ x ∈ l
  | [], _ => Iff.rfl
  | y :: r, x => by
    unfold ddI
    split
    · next h =>
      rw [dd_mem r x, List.mem_cons]
      refine ⟨.inr, fun h2 => h2.elim (fun e => ?_) id⟩
      rw [e]
      exact (dd_mem r y).mp (by simpa using h)
    · rw [List.mem_cons, List.mem_cons, dd_mem r x]
theorem dd_nodup : ∀ l : List Int, (ddI l).Nodup
  | [] => List.nodup_nil
  | y :: r => by
    unfold ddI
    split
    · exact dd_nodup r
    · next h => exact List.nodup_cons.mpr ⟨by simpa using h, dd_nodup r⟩
theorem sort_dd {ks ns : List Int} (nd : ks.Nodup) (h : ∀ k, k ∈ ks ↔ k ∈ ns) : sortI ks = sortI (ddI ns) := by
  refine sortI_eq ?_ (sortI_pw ks)
  refine (sortI_perm ks).trans ?_
  exact (List.perm_ext_iff_of_nodup nd (dd_nodup ns)).mpr fun k => by rw [h, dd_mem]
def tSSet (K : PySem.W.Frag) (te : TE) : TE := fun σ H Q => te σ H fun x H1 => ∃ (l : Addr) (ns : List Int), x = .ref l ∧ SqL K H1 l (ns.map V.int) ∧ ns.length ≤ 1000 ∧ ∀ b, H1 b = none → Q (.ref b) (upd H1 b (.lst ((sortI (ddI ns)).map V.int)))
section
variable {X : Cx} {e : Expr} {te : TE} {p p2 q2 pos : Pos}
theorem pe_sset (hc : X.calm = true) (he : PE X e te) (hg : Gl X "sorted") (hm : X.mg "sorted" = none) (hg2 : Gl X "set") (hm2 : X.mg "set" = none)
    (hs : starEach [.Call (.Name "set" p2) [e] [] q2] X.env = (false, eval (.Call (.Name "set" p2) [e] [] q2) X.env) :: starEach [] X.env := by rfl)
    (hs2 : starEach [e] X.env = (false, eval e X.env) :: starEach [] X.env := by rfl) :
    PE X (.Call (.Name "sorted" p) [.Call (.Name "set" p2) [e] [] q2] [] pos) (tSSet X.K te) := by
  refine ⟨fun pins s σ H Q I hq => ?_⟩
  refine Call_ (ld_blt I hg hm (show bootBuiltins "sorted" = some (.builtin "sorted") by decide +kernel) ?_)
  refine PyProof.Rows.callWith_builtin1 (PyProof.Rows.args_cons ?_ hs) hs rfl
  refine Call_ (ld_blt I hg2 hm2 (show bootBuiltins "set" = some (.type "set") by decide +kernel) ?_)
  refine PyProof.Rows.callWith_type1 (PyProof.Rows.args_cons (thn (he.run pins s σ H _ I hq) fun v s1 ⟨x, H1, I1, r1, q1⟩ => PyProof.Rows.args_nil ?_) hs2) hs2 rfl
  obtain ⟨l, ns, rfl, hq2, hz, q1⟩ := q1
  cases r1
  obtain ⟨its, r, pl, _⟩ := I1.list hq2
  have hi := r.ints
  have hlen : its.length = ns.length := by rw [← r.length, List.length_map]
  refine set_of_list ns (I1.ok.hd hc) pl.isList (by simpa using hi) (by unfold scanBound; omega) fun g tk c isR keep => ?_
  refine PyProof.Rows.args_nil ?_
  have I2 : Inv X pins σ H1 { s1 with heap := g, toks := tk } := I1.kept keep
  obtain ⟨o, es, ep, t, ho, hex, hd, gd, nd, hmem, hbig, hf, hn, hr, hl⟩ := isR
  refine sorted_gen (good := fun g' zs => (∃ ks, IntsAre zs ks ∧ ks.Nodup ∧ (∀ k, k ∈ ks ↔ k ∈ ns) ∧ zs.length ≤ 4096) ∧ g.objs.size ≤ g'.objs.size) (lt := fun _ => SrtO.ltIv) (fun _ => SrtO.swo_int)
    (fun R k => ?_) (fun g' zs hg => by obtain ⟨⟨ks, _, _, _, h⟩, _⟩ := hg; rw [sizeLine_eq]; omega) (fun sg zs b hg h2 hb => ?_) (fun sg g2 zs out e2 b hg keep1 eg eo keep2 h1 h2 hb at2 => ?_)
  · refine collect_set (I2.ok.hd hc) ⟨o, ho, hex.1, hd⟩ hf hbig hr hl fun sg zs keep1 big eg eo pm => ?_
    have hI : IntsAre zs (zs.map Builtin.Re.reRawOf) := ints_of zs fun v hv => by
      obtain ⟨e, he, z⟩ := List.mem_map.mp (pm.mem_iff.mp hv)
      obtain ⟨k, tk, h1, _⟩ := gd e he
      exact ⟨k, tk, by rw [← z]; exact h1⟩
    have pk : (zs.map Builtin.Re.reRawOf).Perm (es.toList.map keyOf) := by
      have z := pm.map Builtin.Re.reRawOf
      rw [List.map_map] at z
      exact z
    have hlz : zs.length ≤ 4096 := by
      rw [pm.length_eq, List.length_map, Array.length_toList]
      unfold scanBound at hbig; omega
    exact k sg zs keep1 eg eo ⟨⟨_, hI, pk.nodup_iff.mpr nd, fun k => by rw [pk.mem_iff, ← hmem k, decide_eq_true_eq], hlz⟩, big⟩
  · obtain ⟨⟨ks, hI, _⟩, _⟩ := hg
    exact SrtO.ints_sortable hI h2
  · obtain ⟨⟨ks, hI, knd, kmem, hlz⟩, big⟩ := hg
    obtain ⟨k1, k2, k3⟩ := SrtO.ints_out hI h1 h2
    have e : out.map SrtO.iv = sortI (ddI ns) := by rw [sortI_eq k2 k3, sort_dd knd kmem]
    have hb2 : g.objs.size ≤ b := Nat.le_trans big hb
    have hnone := I2.hok.fresh hb2
    have both : ∀ b o, g.get? b = some o → g2.get? b = some o := fun b o z => keep2 b o (keep1 b o z)
    have hlen : ((sortI (ddI ns)).map V.int).length ≤ sizeLine := by
      rw [← e, List.length_map, k2.length_eq, ← IntsAre.length hI, sizeLine_eq]; omega
    rw [e] at k1
    exact ⟨.ref b, _, I2.call' (ch := []) (s' := { sg with heap := g2 }) eo (Un.laid both hb2 hnone) (I2.hok.laid both hb2 (show ObjOk X.prog X.w (upd H1 b (.lst ((sortI (ddI ns)).map V.int))) g2 b (.lst ((sortI (ddI ns)).map V.int)) from ⟨hlen, out, e2, vals_of_ints k1, at2⟩)) (by rw [show ({ sg with heap := g2 } : Shared).gens = s1.gens from eg]; exact I2.bare) (fun b z => by simp at z), rfl, q1 b hnone⟩
end
section
variable {L : Lk} {G : Gm} {n : Nat} {X : Cx} {e : Expr} {ie : IE} {p p2 q2 apos cpos pos : Pos}
theorem of_ints_kv {kvs : List (Key × D)} : ∀ {ps : List (Int × Int)}, alls pr1 (kvs.map fun kv => D.tup [ofKey kv.1, kv.2]) = some ps → kvs = ps.map fun p => ((Sum.inl p.1 : Key), D.int p.2) := by
  induction kvs with
  | nil => intro ps h; cases h; rfl
  | cons x r ih =>
    intro ps h
    obtain ⟨k, d⟩ := x
    rw [List.map_cons] at h
    unfold alls at h
    cases k with
    | inr z => cases d <;> simp [pr1, ofKey] at h
    | inl i =>
      cases d with
      | int j =>
        simp only [pr1, ofKey] at h
        split at h
        · next x xs e1 e2 =>
          cases e1; cases h
          rw [ih e2]; rfl
        · cases h
      | _ => simp [pr1, ofKey] at h
theorem ints_ws {A : AH} {N : Addr → Prop} {H : Hp} : ∀ {ps : List (Int × Int)} {ws : List (Key × V)}, RKs L.K A N H (ps.map fun p => ((Sum.inl p.1 : Key), D.int p.2)) ws → ws = ps.map fun p => ((Sum.inl p.1 : Key), V.int p.2)
  | [], ws, h => by
    have := congrArg List.length h.1
    cases ws with
    | nil => rfl
    | cons _ _ => simp at this
  | p :: ps, ws, h => by
    obtain ⟨q, r, rfl, e, rv, t⟩ := RKs.cons' h
    rw [List.map_cons, ← ints_ws t]
    obtain ⟨k, v⟩ := q
    have e : (Sum.inl p.1 : Key) = k := e
    have rv : v = V.int p.2 := rv_int.mp rv
    rw [← e, rv]
theorem sitems_ (hm : X.mg "sorted" = none) (he : DE L G n X e ie) (hg : Gl X "sorted" := by rfl) (hbase : attributeBase e "items" X.env (eval e X.env) = eval e X.env := by rfl) (hline : (apos.endLine == cpos.line) = true := by rfl)
    (hs : starEach [.Call (.Attribute e "items" apos) [] [] cpos] X.env = (false, eval (.Call (.Attribute e "items" apos) [] [] cpos) X.env) :: starEach [] X.env := by rfl) :
    DE L G n X (.Call (.Name "sorted" p) [.Call (.Attribute e "items" apos) [] [] cpos] [] pos) (.bi .sitems [ie]) := fun C W tk =>
  pe_imp (pe_sitems C.calm (he C W tk) hg hm hbase hline hs) fun σ H Q ⟨N, δ, A, Qd, Ed, rs, ra, h, hq, hx⟩ =>
    LE.use rs ra (show wpE (callN G n) G ie δ A (fun x A1 => dBi .sitems [x] A1 Qd) Ed from h) (fun x A1 v1 H1 rv1 ra1 ex1 rs1 q1 => by
      have k1 : Kt L A1 N H1 Qd Q := fun d A' v' H' r1 r2 e q => hq d A' v' H' r1 r2 (ex1.trans e) q
      rw [C.K]
      cases x with
      | ref a =>
        have q1 : (match A1 a with | some (.dk kvs) => (match alls pr1 (kvs.map fun kv => D.tup [ofKey kv.1, kv.2]) with | some ps => newL A1 ((sortP ps).map prD) Qd | none => False) | _ => False) := q1
        split at q1
        · next kvs e1 =>
          split at q1
          · next ps e2 =>
            have ek := of_ints_kv e2
            obtain ⟨ws, h1, h2⟩ := ra1 a _ e1
            rw [ek] at h2
            have ew : ws = ps.map fun p => ((Sum.inl p.1 : Key), V.int p.2) := ints_ws h2
            rw [ew] at h1
            refine ⟨a, ps, rv_ref.mp rv1, h1, fun H' ys b ext pr hb => ?_⟩
            have st : Ext A1 H1 A1 H' := fun b o h k => ⟨ext b o h, k⟩
            have ra2 : RA L A1 N H' := ⟨fun b w e => RO.stay (st.stay ra1) (fun u q => ext b u q) (ra1 b w e), fun b hb => let ⟨h1, w, h2⟩ := ra1.hid b hb; ⟨h1, w, ext b w h2⟩⟩
            have k2 : Kt L A1 N H' Qd Q := fun d A' v' H2 r1 r2 e q => k1 d A' v' H2 r1 r2 (st.trans e) q
            exact k2.lst ra2 (of_prs pr) q1 b hb
          · exact q1.elim
        · exact q1.elim
      | _ => exact (show False from q1).elim) hx
theorem ssort_ (hm : X.mg "sorted" = none) (hm2 : X.mg "set" = none) (he : DE L G n X e ie) (hg : Gl X "sorted" := by rfl) (hg2 : Gl X "set" := by rfl)
    (hs : starEach [.Call (.Name "set" p2) [e] [] q2] X.env = (false, eval (.Call (.Name "set" p2) [e] [] q2) X.env) :: starEach [] X.env := by rfl)
    (hs2 : starEach [e] X.env = (false, eval e X.env) :: starEach [] X.env := by rfl) :
    DE L G n X (.Call (.Name "sorted" p) [.Call (.Name "set" p2) [e] [] q2] [] pos) (.bi .ssort [ie]) := fun C W tk =>
  pe_imp (pe_sset C.calm (he C W tk) hg hm hg2 hm2 hs hs2) fun σ H Q ⟨N, δ, A, Qd, Ed, rs, ra, h, hq, hx⟩ =>
    LE.use rs ra (show wpE (callN G n) G ie δ A (fun x A1 => dBi .ssort [x] A1 Qd) Ed from h) (fun x A1 v1 H1 rv1 ra1 ex1 rs1 q1 => by
      have k1 : Kt L A1 N H1 Qd Q := fun d A' v' H' r1 r2 e q => hq d A' v' H' r1 r2 (ex1.trans e) q
      rw [C.K]
      have q1 : (match lstD A1 x with | some xs => (match alls int1 xs with | some ns => ns.length ≤ 1000 ∧ newL A1 ((sortI (ddI ns)).map .int) Qd | none => False) | none => False) := q1
      split at q1
      · next xs e1 =>
        split at q1
        · next ns e2 =>
          obtain ⟨b, ws, rfl, h1, h2⟩ := lstD_rv e1 ra1 rv1
          rw [alls_int e2] at h2
          have ew := h2.ints
          rw [ew] at h1
          exact ⟨b, ns, rfl, h1, q1.1, k1.lst ra1 (RVs.of_ints _) q1.2⟩
        · exact q1.elim
      · exact q1.elim) hx
end
end DL

set_option Elab.async false
set_option linter.all false
set_option maxRecDepth 100000
/-! tuple(d): a dict's keys -/
namespace DL
open PySem PySem.Spec PyProof.Rows L2
section
variable {prog : Program} {w : World} {A : Around} {E : Value → Shared → Prop} {s : Shared} {r d : PySem.Addr} {n : Nat} {P : Nat → Value → Prop} {OK : Heap → Prop}
theorem tupd_code {Q₁ : Value → Shared → Prop} (K : PySem.W.KdlSrc prog w "dict" r d n P OK) (hh : A.handled = none) (hok : OK s.heap) (hn : n ≤ sizeLine)
    (h : ∀ (h' : Heap) (tk : Nat) (acc : Array Value), (∀ b o, s.heap.get? b = some o → h'.get? b = some o) → ItemsOf P acc n →
      Q₁ (.ref h'.objs.size) { s with heap := h'.push { cls := .type "tuple", data := .seq acc }, toks := tk }) :
    codeAny (model prog w) A (.call (.builtin "tuple.__new__") ⟨[.type "tuple", .ref r], []⟩) (wants Q₁ E) s := by
  refine codeAny_of_tree ?_
  show wpAny _ A.in1 (do checkBuiltinCall "tuple.__new__" ⟨[.type "tuple", .ref r], []⟩; again (.builtin "tuple.__new__" ⟨[.type "tuple", .ref r], []⟩)) _ _ s
  refine wpAny_bind (wpAny_of_eq (F.newCall_tuple_1 _) (wpAny_pure ⟨plainId_quiet F.plain_tuple_new _, codeAny_builtin F.entry_tuple_new ?_⟩))
  rw [Around.under_plainId F.plain_tuple_new _]
  have hsub := sub_tuple_self
  have hinit := init_tuple_lookup
  have hmh := madeHere_tuple
  have hTI : s.TypeIs (.ref r) "dict" := K.type s hok
  have hh1 : A.in1.handled = none := hh
  wp_walk using wpAny_typeOf hTI, PySem.W.kdu_collect (A := A.in1) K hh1 hok hn
  intro h' tk acc hk hacc
  show wpAny _ _ (Builtin.Tuple.tupleExact acc.toList.toArray >>= fun v => ret v) _ _ _
  unfold Builtin.Tuple.tupleExact
  refine wpAny_bind (wpAny_newObj_type ?_ (by show acc.toList.toArray.size ≤ sizeLine; simp only [Array.toArray_toList]; rw [hacc.1]; exact hn))
  refine wpAny_pure ?_
  have e : acc.toList.toArray = acc := by simp
  rw [e]
  exact h h' tk acc hk hacc
theorem tupd_call {Q : Value → Shared → Prop} (K : PySem.W.KdlSrc prog w "dict" r d n P OK) (hh : A.handled = none) (hok : OK s.heap) (hn : n ≤ sizeLine)
    (hQ : ∀ (h' : Heap) (tk : Nat) (acc : Array Value), (∀ b o, s.heap.get? b = some o → h'.get? b = some o) → ItemsOf P acc n →
      Q (.ref h'.objs.size) { s with heap := h'.push { cls := .type "tuple", data := .seq acc }, toks := tk }) :
    wpAny (model prog w) A (call (.type "tuple") [.ref r]) Q E s := by
  refine callType_codes (Q₁ := fun obj s₁ => s₁.TypeIs obj "tuple" ∧ Q obj s₁) F.called_tuple (F.typeCall_tuple_1 _) F.entry_object_init
    (tupd_code (A := A.in1) K hh hok hn fun h' tk acc hk hacc => ⟨⟨_, Heap.get?_push_size _ rfl, rfl⟩, hQ h' tk acc hk hacc⟩) fun obj s₁ h₁ => ?_
  exact ⟨h₁.1, F.args_object_init_2 obj _, object_init_meets F.called_tuple.init.lookup F.called_tuple.made (by decide) prog w A.in1 _ s₁ ⟨h₁.1, rfl, h₁.2⟩⟩
end
section
variable {X : Cx}
def rTupD : List V → Hp → VK → Prop := fun xs H Q => ∃ (a : Addr) (kvs : List (Key × V)), xs = [.ref a] ∧ Rd H a (.dK kvs) ∧ ∀ p, H p = none → Q (.ref p) (upd H p (.tup (kvs.map fun kv => kV kv.1)))
theorem call_tupD (hcalm : X.calm = true) : CallR X (.type "tuple") rTupD := by
  intro pins s σ H xs us Q I r q
  obtain ⟨a, kvs, ex, hd, q⟩ := q
  subst ex
  obtain ⟨u, eu, rx⟩ := vals1 r
  subst eu
  cases rx
  obtain ⟨z, lo, vs, rel, dd⟩ := dk_rd I.hok hd
  obtain ⟨ep, hat⟩ := dd.dictAt
  have ek : (kvs.map fun kv => kV kv.1) = vs.map fun p => kV p.1 := by
    have e := congrArg (List.map kV) rel.keys
    rw [List.map_map, List.map_map] at e
    exact e
  refine tupd_call (PySem.W.kdl_dict (knd := mixKind X.prog X.w) (kvs := vs) (ep := ep) lo) (I.ok.hd hcalm) hat (by rw [← rel.length]; exact z) fun h' tk acc hk hacc => ?_
  have hv : Vals (vs.map fun p => kV p.1) acc.toList := keys_at (by rw [Array.length_toList]; exact hacc.1) fun j v e => hacc.2 j v (by rw [← Array.getElem?_toList]; exact e)
  have I1 : Inv X pins σ H { s with heap := h' } := I.kept (t' := s.toks) hk
  have I2 : Inv X pins σ (upd H h'.objs.size (.tup (kvs.map fun kv => kV kv.1))) { s with heap := h'.push { cls := .type "tuple", data := .seq acc }, toks := tk } :=
    I1.laid (t' := tk) (fun b o e => Heap.get?_push_of_some _ e) (Nat.le_refl _) (show ObjOk X.prog X.w _ _ _ (.tup (kvs.map fun kv => kV kv.1)) from ⟨by rw [List.length_map]; exact z, acc.toList, by rw [ek]; exact hv, by have := IsTup.new h' acc; rw [Array.toArray_toList]; exact this⟩)
  exact ⟨.ref h'.objs.size, _, I2, rfl, q _ (I1.hok.fresh (Nat.le_refl _))⟩
theorem db_tupd {L : Lk} : DBi L rTupD (dBi .tupd) := by
  intro ds vs A N H Q Qd rv ra h k
  match ds, rv, h with
  | [d], rv, h =>
    obtain ⟨v, rfl, r⟩ := rvs1 rv
    have h : (match dicD A d with | some kvs => Qd (.tup (kvs.map fun kv => ofKey kv.1)) A | none => False) := h
    split at h
    · next kvs e =>
      obtain ⟨b, ws, rfl, h1, h2⟩ := dicD_rv e ra r
      exact ⟨b, ws, rfl, h1, k.tup ra (rvs_keys h2) h⟩
    · exact h.elim
  | [], _, h => exact (show False from h).elim
  | d :: _ :: _, _, h => exact (show False from h).elim
theorem b_tupd : BiR L X "tuple" (.type "tuple") .tupd := ⟨.inr ⟨_, rfl, rTupD, fun h => call_tupD h, fun _ => db_tupd⟩, by decide +kernel, by decide, by decide⟩
end
end DL

set_option Elab.async false
set_option linter.all false
set_option maxRecDepth 100000
/-! dict displays that are not empty -/
namespace DL
open PySem PySem.Spec PyProof.Rows L2
section
variable {L : Lk} {G : Gm} {n : Nat} {X : Cx} {k v : Expr} {ik iv : IE} {pos : Pos} {keys : List (Option Expr)} {values : List Expr} {ps : List (IE × IE)}
def flt2 {α : Type} (ps : List (α × α)) : List α := ps.flatMap fun p => [p.1, p.2]
theorem flt2_cons {α : Type} (p : α × α) (ps : List (α × α)) : flt2 (p :: ps) = p.1 :: p.2 :: flt2 ps := rfl
abbrev trsD (L : Lk) (W : WX) (c : CallT) (G : Gm) (ps : List (IE × IE)) : List (TE × TE) := ps.map fun p => (LE L W (wpE c G p.1), LE L W (wpE c G p.2))
/-- the pairs of a display -/
def DPr (L : Lk) (G : Gm) (n : Nat) (X : Cx) (pos : Pos) (keys : List (Option Expr)) (values : List Expr) (ps : List (IE × IE)) : Prop := Cn L G n X → ∀ W, Takes X W → PPs X pos keys values (trsD L W (callN G n) G ps)
theorem dpr_nil : DPr L G n X pos [] [] [] := fun C W tk => pps_nil
theorem dpr_cons (hk : DE L G n X k ik) (hv : DE L G n X v iv) (h : DPr L G n X pos keys values ps) : DPr L G n X pos (some k :: keys) (v :: values) ((ik, iv) :: ps) := fun C W tk => pps_cons (hk C W tk) (hv C W tk) (h C W tk)
theorem tPairs_of {W : WX} {c : CallT} : ∀ (ps : List (IE × IE)) {δ : DSt} {A : AH} {N : Addr → Prop} {H : Hp} {σ : L2.St} {Qd : List D → AH → Prop} {Q : List (V × V) → Hp → Prop}, RS L.K A N H δ σ → RA L A N H → wpEs c G (flt2 ps) δ A Qd (fun _ _ => False) →
    (∀ ds A' vs H', RVs L.K A' N H' ds (flt2 vs) → RA L A' N H' → Ext A H A' H' → Qd ds A' → Q vs H') → tPairs (trsD L W c G ps) σ H Q
  | [], δ, A, N, H, σ, Qd, Q, rs, ra, h, hq => hq [] A [] H .nil ra (Ext.refl _ _) h
  | p :: ps, δ, A, N, H, σ, Qd, Q, rs, ra, h, hq => by
    rw [flt2_cons] at h
    show LE L W (wpE c G p.1) σ H fun x H1 => LE L W (wpE c G p.2) σ H1 fun y H2 => tPairs (trsD L W c G ps) σ H2 fun ps H3 => Q ((x, y) :: ps) H3
    refine LE.use rs ra h (fun d1 A1 v1 H1 rv1 ra1 ex1 rs1 q1 => ?_) (fun _ _ _ _ _ z => z.elim)
    refine LE.use rs1 ra1 q1 (fun d2 A2 v2 H2 rv2 ra2 ex2 rs2 q2 => ?_) (fun _ _ _ _ _ z => z.elim)
    refine tPairs_of ps rs2 ra2 q2 fun ds A3 vs H3 rvs ra3 ex3 q3 => ?_
    refine hq _ A3 ((v1, v2) :: vs) H3 ?_ ra3 ((ex1.trans ex2).trans ex3) q3
    rw [flt2_cons]
    exact .cons (RV.stay (ex3.stay ra2) _ _ (RV.stay (ex2.stay ra1) _ _ rv1)) (.cons (RV.stay (ex3.stay ra2) _ _ rv2) rvs)
theorem keyD_rv2 {K : PySem.W.Frag} {A : AH} {N : Addr → Prop} {H : Hp} {d : D} {v : V} {k : Key} (h : keyD d = some k) (r : RV K A N H d v) : v = kV k := by
  cases d <;> simp only [keyD] at h <;> cases h
  · exact rv_int.mp r
  · exact rv_str.mp r
theorem kvs2_rv {A : AH} {N : Addr → Prop} {H : Hp} : ∀ {vs : List (V × V)} {ds : List D} {kvs : List (Key × D)}, kvs2 ds = some kvs → RVs L.K A N H ds (flt2 vs) → ∃ ws : List (Key × V), vs = ws.map (fun kv => (kV kv.1, kv.2)) ∧ RKs L.K A N H kvs ws
  | [], ds, kvs, h, r => by
    have := r.length
    have e : ds = [] := List.length_eq_zero_iff.mp this
    subst e
    simp only [kvs2] at h
    cases h
    exact ⟨[], rfl, .nil⟩
  | p :: vs, [], kvs, h, r => by rw [flt2_cons] at r; have := r.length; cases this
  | p :: vs, [d], kvs, h, r => by simp only [kvs2] at h; cases h
  | p :: vs, d1 :: d2 :: ds, kvs, h, r => by
    rw [flt2_cons] at r
    obtain ⟨v1, r1, e1, rv1, r⟩ := r.cons'
    obtain ⟨v2, r2, e2, rv2, r⟩ := r.cons'
    injection e1 with e1 e3
    rw [e2] at e3
    injection e3 with e3 e4
    subst e4
    simp only [kvs2] at h
    cases hk : keyD d1 with
    | none => rw [hk] at h; cases h
    | some k =>
      rw [hk] at h
      cases hr : kvs2 ds with
      | none => rw [hr] at h; cases h
      | some t =>
        rw [hr] at h
        cases h
        obtain ⟨ws, e5, rk⟩ := kvs2_rv hr r
        refine ⟨(k, v2) :: ws, ?_, .cons rfl rv2 rk⟩
        rw [List.map_cons, ← e5]
        congr 1
        have := keyD_rv2 hk rv1
        rw [← this]
        exact Prod.ext e1 e3
theorem de_dic (hp : DPr L G n X pos keys values ps) (hall : keys.all (·.isSome) = true) (hl : keys.length = values.length) (h0 : keys ≠ []) (h15 : Nat.ble keys.length 15 = true) : DE L G n X (.Dict keys values pos) (.dic (flt2 ps)) := fun C W tk =>
  pe_imp (pe_disp (hp C W tk) hall hl h0 (Nat.le_of_ble_eq_true h15)) fun σ H Q ⟨N, δ, A, Qd, Ed, rs, ra, h, hq, hx⟩ p np => by
    have h : wpEs (callN G n) G (flt2 ps) δ A (fun ds A1 => match kvs2 ds with | some kvs => kvs.length ≤ 15 ∧ newD A1 (mergeD [] kvs) Qd | none => False) (fun _ _ => False) := h
    refine tPairs_of ps (rs.stay (Stay.hide np)) (ra.hide np) h fun ds A' vs H' rvs ra2 ex2 q => ?_
    obtain ⟨hD, nA⟩ := ex2 p _ upd_same (ra.non np)
    refine ⟨hD, ?_⟩
    cases e : kvs2 ds with
    | none => rw [e] at q; exact q.elim
    | some kvs =>
      rw [e] at q
      obtain ⟨ws, e1, rk⟩ := kvs2_rv e rvs
      refine ⟨ws, e1, by rw [← rk.len]; exact q.1, ?_⟩
      have no1 : ∀ xs, HO.dK [] ≠ .tup xs := by intro _ z; cases z
      have no2 : ∀ ob y, HO.dK [] ≠ .frz ob y := by intro _ _ z; cases z
      have st := Stay.quiet (A := A') (u := .dK (mergeK [] ws)) (show hide N p p from .inr rfl) hD no1 no2
      have ra3 := ra2.quiet (u := .dK (mergeK [] ws)) (.inr rfl) hD no1 no2
      have rk3 : RKs L.K A' (hide N p) (upd H' p (.dK (mergeK [] ws))) (mergeD [] kvs) (mergeK [] ws) := (RKs.merge rk .nil).stay st
      have nN : ¬ N p := fun z => by obtain ⟨_, w, h⟩ := ra.hid _ z; rw [np] at h; cases h
      refine hq (.ref p) (up A' p (.dk (mergeD [] kvs))) (.ref p) _ (rv_ref.mpr rfl) ⟨fun c w q2 => ?_, fun c hc => ?_⟩ ?_ (q.2 p nA)
      · by_cases z : c = p
        · subst z; rw [up_same] at q2; cases q2
          exact ⟨_, upd_same, rk3.stay .show⟩
        · rw [up_ne z] at q2
          exact RO.stay .show (fun _ q => q) (ra3 c w q2)
      · have z : c ≠ p := fun z => by subst z; exact nN hc
        rw [up_ne z]; exact ra3.hid c (.inl hc)
      · intro b o hb nb
        have z : b ≠ p := ne_of_none hb np
        obtain ⟨h1, h2⟩ := ex2 b o (by rw [upd_ne z]; exact hb) nb
        rw [upd_ne z, up_ne z]
        exact ⟨h1, h2⟩
end
end DL

set_option Elab.async false
set_option linter.all false
set_option maxRecDepth 100000
/-! sorted of triples of ints -/
namespace DL
open PySem PySem.Spec PyProof.Rows L2
abbrev I3 := Int × Int × Int
theorem leT_iff {p q : I3} : leT p q = true ↔ p.1 < q.1 ∨ (p.1 = q.1 ∧ (p.2.1 < q.2.1 ∨ (p.2.1 = q.2.1 ∧ p.2.2 ≤ q.2.2))) := by unfold leT; simp
theorem sortT_perm (l : List I3) : (sortT l).Perm l := List.mergeSort_perm l _
theorem sortT_pw (l : List I3) : (sortT l).Pairwise fun p q => leT p q = true :=
  List.pairwise_mergeSort (le := leT) (fun a b c h1 h2 => by rw [leT_iff] at *; omega) (fun a b => by rw [Bool.or_eq_true, leT_iff, leT_iff]; omega) l
theorem sortT_eq {l m : List I3} (p : m.Perm l) (h : m.Pairwise fun p q => leT p q = true) : m = sortT l :=
  List.Perm.eq_of_pairwise (le := fun p q => leT p q = true) (fun a b _ _ h1 h2 => by
    rw [leT_iff] at *
    exact Prod.ext (by omega) (Prod.ext (by omega) (by omega))) h (sortT_pw l) (p.trans (sortT_perm l).symm)
def lex3 (p q : I3) : Bool := if p.1 = q.1 then (if p.2.1 = q.2.1 then decide (p.2.2 < q.2.2) else decide (p.2.1 < q.2.1)) else decide (p.1 < q.1)
theorem lex3_iff {p q : I3} : lex3 p q = true ↔ p.1 < q.1 ∨ (p.1 = q.1 ∧ (p.2.1 < q.2.1 ∨ (p.2.1 = q.2.1 ∧ p.2.2 < q.2.2))) := by
  unfold lex3
  by_cases e : p.1 = q.1
  · rw [if_pos e]
    by_cases e2 : p.2.1 = q.2.1
    · rw [if_pos e2, decide_eq_true_eq]; omega
    · rw [if_neg e2, decide_eq_true_eq]; omega
  · rw [if_neg e, decide_eq_true_eq]; omega
theorem lex3_no {p q : I3} : lex3 p q = false ↔ ¬ (p.1 < q.1 ∨ (p.1 = q.1 ∧ (p.2.1 < q.2.1 ∨ (p.2.1 = q.2.1 ∧ p.2.2 < q.2.2)))) := by
  rw [← lex3_iff]
  cases lex3 p q <;> simp
theorem swo_lex3 (k : Value → I3) : SrtO.Swo fun v u => lex3 (k v) (k u) := by
  refine ⟨fun x y h => ?_, fun x y z h1 h2 => ?_⟩
  · have a := lex3_iff.mp h
    refine lex3_no.mpr ?_
    omega
  · have a := lex3_no.mp h1
    have b := lex3_no.mp h2
    refine lex3_no.mpr ?_
    omega
def IsTri (h : Heap) (v : Value) (p : I3) : Prop := ∃ a o t u w n, v = .ref a ∧ h.get? a = some o ∧ o.cls = .type "tuple" ∧ o.data = .seq #[.int p.1 t, .int p.2.1 u, .int p.2.2 w] n
theorem IsTri.keeps {h h' : Heap} {v : Value} {p : I3} (x : IsTri h v p) (k : ∀ b o, h.get? b = some o → o.cls = .type "tuple" → h'.get? b = some o) : IsTri h' v p := by
  obtain ⟨a, o, t, u, w, n, e, ho, hc, hd⟩ := x
  exact ⟨a, o, t, u, w, n, e, k a o ho hc, hc, hd⟩
section
variable {prog : Program} {w : World} {A : Around} {E : Value → Shared → Prop} {s : Shared}
theorem tri_cmp {vs : List Value} {k : Value → I3} (hp : ∀ v ∈ vs, IsTri s.heap v (k v)) : SrtO.Cmp prog w A s (tuples' true) (fun p => p.1 ∈ vs) (SrtO.lt2 fun v u => lex3 (k v) (k u)) := by
  intro p q hm hm'
  have h1 := hp _ hm
  have h2 := hp _ hm'
  show wpAny (model prog w) A (keyLt' (tuples' true) p.1 q.1) (fun r s' => s' = s ∧ r = lex3 (k p.1) (k q.1)) (fun _ _ => False) s
  unfold lex3
  generalize k p.1 = x at h1 ⊢
  generalize k q.1 = x' at h2 ⊢
  obtain ⟨x, y, z⟩ := x
  obtain ⟨x', y', z'⟩ := x'
  dsimp only
  obtain ⟨a, o, t, u, r, n, e, ho, hc, hd⟩ := h1
  obtain ⟨a', o', t', u', r', n', e', ho', hc', hd'⟩ := h2
  rw [e, e']
  refine PySem.W.kat_lt ho hd ho' hd' ?_
  show PySem.W.KatLex prog w A true (decide (3 < 3)) _ [(.int x t, .int x' t'), (.int y u, .int y' u'), (.int z r, .int z' r')] 0 s
  refine PySem.W.kat_cons (SeqAt.EqAt.int_int x t x' t' prog w _ _ ?_)
  refine PySem.W.kat_go (fun e1 => ?_) (fun e1 => ?_)
  · have ex : x = x' := by simpa using e1
    refine PySem.W.kat_yes (PySem.W.kat_cons (SeqAt.EqAt.int_int y u y' u' prog w _ _ ?_))
    refine PySem.W.kat_go (fun e2 => ?_) (fun e2 => ?_)
    · have ey : y = y' := by simpa using e2
      refine PySem.W.kat_yes (PySem.W.kat_cons (SeqAt.EqAt.int_int z r z' r' prog w _ _ ?_))
      refine PySem.W.kat_go (fun e3 => ?_) (fun e3 => ?_)
      · have ez : z = z' := by simpa using e3
        have e4 : (if x = x' then (if y = y' then decide (z < z') else decide (y < y')) else decide (x < x')) = false := by
          rw [if_pos ex, if_pos ey, ez]
          exact decide_eq_false (Int.lt_irrefl _)
        exact PySem.W.kat_yes (PySem.W.kat_nil ⟨rfl, e4.symm⟩)
      · have e4 : (if x = x' then (if y = y' then decide (z < z') else decide (y < y')) else decide (x < x')) = decide (z < z') := by rw [if_pos ex, if_pos ey]
        refine PySem.W.kat_no (PySem.W.kat_one _ _ (PyProof.Rows.lt_int ?_))
        exact (show s = s ∧ decide (z < z') = (if x = x' then (if y = y' then decide (z < z') else decide (y < y')) else decide (x < x')) from ⟨rfl, e4.symm⟩)
    · have ey : ¬ y = y' := by simpa using e2
      have e4 : (if x = x' then (if y = y' then decide (z < z') else decide (y < y')) else decide (x < x')) = decide (y < y') := by rw [if_pos ex, if_neg ey]
      refine PySem.W.kat_no (PySem.W.kat_one _ _ (PyProof.Rows.lt_int ?_))
      exact (show s = s ∧ decide (y < y') = (if x = x' then (if y = y' then decide (z < z') else decide (y < y')) else decide (x < x')) from ⟨rfl, e4.symm⟩)
  · have ex : ¬ x = x' := by simpa using e1
    have e4 : (if x = x' then (if y = y' then decide (z < z') else decide (y < y')) else decide (x < x')) = decide (x < x') := if_neg ex
    exact PySem.W.kat_no (oneLt_int ⟨rfl, e4.symm⟩)
theorem tri_firsts {h : Heap} : ∀ {vs : List Value}, (∀ v ∈ vs, ∃ p, IsTri h v p) → ∃ fs : List Value, PySem.W.KatTups h vs fs ∧ fs.length = vs.length ∧ ∀ f ∈ fs, ∃ x t, f = Value.int x t
  | [], _ => ⟨[], PySem.W.KatTups.nil, rfl, fun _ hm => by simp at hm⟩
  | v :: vs, hp => by
    obtain ⟨fs, h1, h2, h3⟩ := tri_firsts (vs := vs) fun v' hm => hp v' (List.mem_cons_of_mem _ hm)
    obtain ⟨p, a, o, t, u, w, n, e, ho, hc, hd⟩ := hp v List.mem_cons_self
    subst e
    refine ⟨.int p.1 t :: fs, PySem.W.KatTups.cons ho hc hd rfl h1, by rw [List.length_cons, List.length_cons, h2], fun f hm => ?_⟩
    rcases List.mem_cons.mp hm with rfl | hm
    · exact ⟨_, t, rfl⟩
    · exact h3 f hm
theorem tris_sortableO {a : Addr} {vs : List Value} {k : Value → I3} (h0 : 0 < vs.length) (hp : ∀ v ∈ vs, IsTri s.heap v (k v)) (ha : ∀ o, s.heap.get? a = some o → o.cls ≠ .type "tuple") : SrtO.SortableO prog w A s a vs fun v u => lex3 (k v) (k u) := by
  intro h' keep
  have hp' : ∀ v ∈ vs, IsTri h' v (k v) := fun v hm => (hp v hm).keeps fun b o e c => keep b o (fun z => by subst z; exact ha o e c) e
  obtain ⟨fs, h1, h2, h3⟩ := tri_firsts fun v hm => ⟨_, hp' v hm⟩
  refine ⟨tuples' true, fun Q E hq => ?_, tri_cmp hp'⟩
  refine PySem.W.kat_kind (T := .type "int") h1 (by omega) (fun f hm => ?_) (by rfl) ?_
  · obtain ⟨x, t, rfl⟩ := h3 f hm
    exact PySem.W.Looks.now
  · have e : (Value.type "int" != Value.type "tuple") = true := by first | decide +kernel | rfl | decide
    rw [e]
    exact hq
end
/-- a triple of ints as a value -/
def kT (K : PySem.W.Frag) (H : Hp) (v : V) (p : I3) : Prop := ∃ t, v = V.ref t ∧ SqT K H t [.int p.1, .int p.2.1, .int p.2.2]
def rSrt3 (K : PySem.W.Frag) : List V → Hp → VK → Prop := fun vs H Q => ∃ (a : Addr) (xs : List V), vs = [V.ref a] ∧ (SqL K H a xs ∨ SqT K H a xs) ∧
  ∃ ps : List I3, Paired (kT K H) xs ps ∧ ∀ ys p, Paired (kT K H) ys (sortT ps) → H p = none → Q (.ref p) (upd H p (.lst ys))
/-- the triple that an object holds -/
def kH3 (g : Heap) (u : Value) : I3 := match u with
  | .ref a => match g.get? a with
    | some o => match o.data with
      | .seq z _ => match z.toList with
        | [.int x _, .int y _, .int w _] => (x, y, w)
        | _ => (0, 0, 0)
      | _ => (0, 0, 0)
    | none => (0, 0, 0)
  | _ => (0, 0, 0)
theorem kH3_of {g : Heap} {u : Value} {p : I3} (h : IsTri g u p) : kH3 g u = p := by
  obtain ⟨a, o, t1, t2, t3, n, rfl, h1, h2, h3⟩ := h
  simp only [kH3, h1, h3]
theorem Vals.three {x y z : Int} {us : List Value} (h : Vals [V.int x, .int y, .int z] us) : ∃ t u r, us = [.int x t, .int y u, .int z r] := by
  cases h with
  | cons h1 h => cases h with
    | cons h2 h => cases h with
      | cons h3 h =>
        cases h
        obtain ⟨t, rfl⟩ := h1
        obtain ⟨u, rfl⟩ := h2
        obtain ⟨r, rfl⟩ := h3
        exact ⟨t, u, r, rfl⟩
theorem cr_srt3 {X : Cx} : CallR X (.builtin "sorted") (rSrt3 X.K) := by
  intro pins s σ H vs us Q I r h
  obtain ⟨a, xs, rfl, hs, ps, hx, q⟩ := h
  obtain ⟨its, rv, hz, col⟩ : ∃ its : List Value, Vals xs its ∧ its.length ≤ sizeLine ∧ ∀ (A : Around) (E : Value → Shared → Prop) (R : List Value → Shared → Prop), R its { s with heap := colHeap s.heap its } → wpAny (model X.prog X.w) A (collect (.ref a)) R E s := by
    rcases hs with hs | hs
    · obtain ⟨its, rv, hl, hz⟩ := I.list hs
      have hz' : its.length ≤ sizeLine := by rw [← rv.length]; exact hz
      exact ⟨its, rv, hz', fun A E R q => collect_list hl.isList q hz'⟩
    · obtain ⟨its, rv, hl, hz⟩ := I.tuple hs
      have hz' : its.length ≤ sizeLine := by rw [← rv.length]; exact hz
      exact ⟨its, rv, hz', fun A E R q => collectT hl hz' q⟩
  rw [Vals.ref1 r]
  have sz : xs.length ≤ sizeLine := by rw [rv.length]; exact hz
  -- each value is a triple of the heap
  have all : ∀ {xs : List V} {us : List Value} {ps : List I3}, Vals xs us → Paired (kT X.K H) xs ps → us.map (kH3 s.heap) = ps ∧ ∀ u ∈ us, IsTri s.heap u (kH3 s.heap u) ∧ kT X.K H (backV u) (kH3 s.heap u) ∧ ∃ b, u = Value.ref b := by
    intro xs us ps rv hx
    induction hx generalizing us with
    | nil => cases rv; exact ⟨rfl, fun u h => by cases h⟩
    | cons r t ih =>
      cases rv with
      | cons r1 r2 =>
        obtain ⟨e1, e2⟩ := ih r2
        obtain ⟨b, rfl, hb⟩ := r
        cases r1
        obtain ⟨its2, rr, ⟨o, ho, hc, n, hd⟩, _⟩ := I.tuple hb
        obtain ⟨t1, t2, t3, rfl⟩ := Vals.three rr
        have ip : IsTri s.heap (.ref b) _ := ⟨b, o, t1, t2, t3, n, rfl, ho, hc, hd⟩
        have ek := kH3_of ip
        refine ⟨by rw [List.map_cons, e1, ek], fun u hu => ?_⟩
        rcases List.mem_cons.mp hu with e | hu
        · subst e; rw [ek]; exact ⟨ip, ⟨b, rfl, hb⟩, b, rfl⟩
        · exact e2 u hu
  obtain ⟨e1, e2⟩ := all rv hx
  refine sortedC (swo_lex3 (kH3 s.heap)) hz col (fun h2 g b hb old => ?_) fun out h1 h2 => ?_
  · refine tris_sortableO (s := { s with heap := g }) (by omega) (fun v hm => (e2 v hm).1.keeps fun b o e _ => (old b o e).2) fun o e => ?_
    have e' : some o = some (seqObj "list" its.toArray 0) := e.symm.trans hb
    cases e'
    intro c
    exact absurd (Value.type.inj c) (by decide)
  · have h3 : ∀ u ∈ out, u ∈ its := fun u hu => h2.perm.mem_iff.mp hu
    obtain ⟨ep, he⟩ := sortedAll_at s.heap its out.toArray
    have es : out.map (kH3 s.heap) = sortT ps := by
      refine sortT_eq (by rw [← e1]; exact h2.perm.map _) ?_
      refine List.pairwise_map.mpr (h1.imp fun {x y} h => ?_)
      have h := lex3_no.mp h
      rw [leT_iff]
      omega
    have pr : ∀ us : List Value, (∀ u ∈ us, u ∈ its) → Paired (kT X.K H) (us.map backV) (us.map (kH3 s.heap)) := by
      intro us
      induction us with
      | nil => intro _; exact .nil
      | cons u r ih => intro h; exact .cons (e2 u (h u List.mem_cons_self)).2.1 (ih fun v hv => h v (List.mem_cons_of_mem _ hv))
    refine ⟨.ref (s.heap.objs.size + 1), _, I.laid (t' := s.toks) (o := .lst (out.map backV)) (fun _ _ => sortedAll_old) (Nat.le_succ _) ⟨?_, out, ep, vals_back fun u hu => (e2 u (h3 u hu)).2.2, he⟩, rfl, q _ _ (by rw [← es]; exact pr out h3) (I.hok.fresh (Nat.le_succ _))⟩
    rw [List.length_map, h2.perm.length_eq]
    exact hz
theorem alls_tri : ∀ {xs : List D} {ps : List I3}, alls tri1 xs = some ps → xs = ps.map triD
  | [], ps, h => by simp only [alls] at h; cases h; rfl
  | d :: ds, ps, h => by
    simp only [alls] at h
    cases h1 : tri1 d with
    | none => rw [h1] at h; cases h
    | some p =>
      rw [h1] at h
      cases h2 : alls tri1 ds with
      | none => rw [h2] at h; cases h
      | some qs =>
        rw [h2] at h
        cases h
        rw [alls_tri h2, List.map_cons]
        congr 1
        unfold tri1 at h1
        split at h1
        · cases h1; rfl
        · cases h1
theorem tris_of {K : PySem.W.Frag} {A : AH} {N : Addr → Prop} {H : Hp} : ∀ {ps : List I3} {ws : List V}, RVs K A N H (ps.map triD) ws → Paired (kT K H) ws ps
  | [], _, r => by rw [r.nil']; exact .nil
  | p :: ps, _, r => by
    obtain ⟨v, vr, rfl, r1, r2⟩ := RVs.cons' r
    obtain ⟨a, vs, rfl, h1, h2⟩ := rv_tup.mp r1
    obtain ⟨v1, q1, rfl, h3, h2⟩ := h2.cons'
    obtain ⟨v2, q2, rfl, h4, h2⟩ := h2.cons'
    obtain ⟨v3, q3, rfl, h5, h2⟩ := h2.cons'
    rw [rv_int.mp h3, rv_int.mp h4, rv_int.mp h5, h2.nil'] at h1
    exact .cons ⟨a, rfl, h1⟩ (tris_of r2)
theorem of_tris {K : PySem.W.Frag} {A : AH} {N : Addr → Prop} {H : Hp} : ∀ {ps : List I3} {ws : List V}, Paired (kT K H) ws ps → RVs K A N H (ps.map triD) ws
  | _, _, .nil => .nil
  | _, _, .cons ⟨a, e, h⟩ t => .cons (rv_tup.mpr ⟨a, _, e, h, .cons (rv_int.mpr rfl) (.cons (rv_int.mpr rfl) (.cons (rv_int.mpr rfl) .nil))⟩) (of_tris t)
theorem db_sort3 {L : Lk} : DBi L (fun vs H Q => rSrt3 L.K vs H Q) (dBi .sort3) := by
  intro ds vs A N H Q Qd rv ra h k
  match ds, rv, h with
  | [d], rv, h =>
    obtain ⟨v, rfl, r⟩ := rvs1 rv
    have h : (match seqD A d with | some xs => (match alls tri1 xs with | some ps => newL A ((sortT ps).map triD) Qd | none => False) | none => False) := h
    split at h
    · next xs e =>
      obtain ⟨p, ws, rfl, h1, h2⟩ := seqD_rv e ra r
      split at h
      · next ps e2 =>
        rw [alls_tri e2] at h2
        exact ⟨p, ws, rfl, h1, ps, tris_of h2, fun ys q hp np => k.lst ra (of_tris hp) h q np⟩
      · exact h.elim
    · exact h.elim
  | [], _, h => exact (show False from h).elim
  | _ :: _ :: _, _, h => exact (show False from h).elim
theorem b_sort3 {L : Lk} {X : Cx} : BiR L X "sorted" (.builtin "sorted") .sort3 := ⟨.inl ⟨_, rfl, _, fun _ => cr_srt3, fun h => by rw [h]; exact db_sort3⟩, by decide +kernel, by decide, by decide⟩
end DL

set_option Elab.async false
set_option linter.all false
set_option maxRecDepth 100000
set_option maxHeartbeats 1000000
/-! two places stored at once -/
namespace DL
open PySem PySem.Spec PyProof.Rows L2
section
variable {L : Lk} {G : Gm} {n : Nat} {X : Cx} {x : Str} {pos p : Pos} {e o i o2 i2 : Expr} {ie io ii io2 ii2 : IE}
/-- a place stored, by values -/
theorem sub_run {N : Addr → Prop} {A : AH} {H : Hp} {d2 d3 d : D} {v2 v3 v1 : V} {σ : L2.St} {δ : DSt} {K : AH → Prop} {T : Hp → Prop} (rs : RS L.K A N H δ σ) (ra : RA L A N H) (r2 : RV L.K A N H d2 v2) (r3 : RV L.K A N H d3 v3) (r1 : RV L.K A N H d v1) (q : dSub d2 d3 d A K) (hn : ∀ A' H', RS L.K A' N H' δ σ → RA L A' N H' → Ext A H A' H' → K A' → T H') : rSetA v2 v3 v1 H T := by
  have dict : ∀ (q : Addr) (ky : Key) (kvs : List (Key × D)), v2 = .ref q → v3 = kV ky → A q = some (.dk kvs) → kvs.length < sizeLine ∧ K (up A q (.dk (putD kvs ky d))) → rSetA v2 v3 v1 H T := fun q ky kvs e2 e3 e q3 => by
    obtain ⟨ws, h1, h2⟩ := ra q _ e
    exact .inr ⟨q, ws, ky, e2, e3, h1, by rw [← h2.len]; exact q3.1, hn _ _ (rs.stay ((Ext.put e).stay ra)) (ra.dput e (h2.put ky r1)) (Ext.put e) q3.2⟩
  unfold dSub at q
  split at q
  · next a j =>
    split at q
    · next xs e =>
      split at q
      · next l el =>
        obtain ⟨ws, h1, h2⟩ := ra a _ e
        rw [rv_ref.mp r2, rv_int.mp r3]
        exact .inl ⟨a, ws, j, l, rfl, rfl, h1, by rw [← h2.length]; exact el, hn _ _ (rs.stay ((Ext.put e).stay ra)) (ra.lput e (RVs.set r1 l h2)) (Ext.put e) q⟩
      · exact q.elim
    · next kvs e => exact dict a (.inl j) kvs (rv_ref.mp r2) (rv_int.mp r3) e q
    · exact q.elim
  · next a z =>
    split at q
    · next kvs e => exact dict a (.inr z) kvs (rv_ref.mp r2) (rv_str.mp r3) e q
    · exact q.elim
  · exact q.elim
theorem ds_sub2 {kt : Nat} {pt sp sp2 : Pos} (he : DE L G n X e ie) (ho : DE L G n X o io) (hi : DE L G n X i ii) (ho2 : DE L G n X o2 io2) (hi2 : DE L G n X i2 ii2)
    (ha : ∀ v, assign (.Subscript o i sp) X.env v = (do
      let ov ← holding [v] (eval o X.env)
      let iv ← holding [v, ov] (eval i X.env)
      standAt sp
      holding [v, ov, iv] (setItem ov iv v)
      release [v, ov, iv] []) := by intro _; rfl)
    (ha2 : ∀ v, assign (.Subscript o2 i2 sp2) X.env v = (do
      let ov ← holding [v] (eval o2 X.env)
      let iv ← holding [v, ov] (eval i2 X.env)
      standAt sp2
      holding [v, ov, iv] (setItem ov iv v)
      release [v, ov, iv] []) := by intro _; rfl)
    (hs : swapsWithSole [.Tuple [.Subscript o i sp, .Subscript o2 i2 sp2] kt pt] e pos.line X.env = pure false := by rfl)
    (hw : swappedStores [.Tuple [.Subscript o i sp, .Subscript o2 i2 sp2] kt pt] e X.env = pure none := by rfl)
    (h1 : (assignEach [.Tuple [.Subscript o i sp, .Subscript o2 i2 sp2] kt pt] X.env).map (·.2) = [assign (.Tuple [.Subscript o i sp, .Subscript o2 i2 sp2] kt pt) X.env] := by rfl)
    (hl : (assignEach [.Subscript o i sp, .Subscript o2 i2 sp2] X.env).length = 2 := by rfl)
    (hst : (assignEach [.Subscript o i sp, .Subscript o2 i2 sp2] X.env).findIdx? (·.1) = none := by rfl)
    (hc1 : (assignEach [.Subscript o i sp, .Subscript o2 i2 sp2] X.env).map (·.2) = assign (.Subscript o i sp) X.env :: (assignEach [.Subscript o2 i2 sp2] X.env).map (·.2) := by rfl)
    (hc2 : (assignEach [.Subscript o2 i2 sp2] X.env).map (·.2) = assign (.Subscript o2 i2 sp2) X.env :: (assignEach [] X.env).map (·.2) := by rfl) :
    DS L G n X (.Assign [.Tuple [.Subscript o i sp, .Subscript o2 i2 sp2] kt pt] e pos) (.sub2 io ii io2 ii2 ie) := fun C po W tk =>
  ps_imp (ps_asg (he C W tk) (pg_tup C.calm (pgs_cons (pg_sub (ho C W tk) (hi C W tk) (set_all (hu_of C.room)) ha) (pgs_cons (pg_sub (ho2 C W tk) (hi2 C W tk) (set_all (hu_of C.room)) ha2) pgs_nil hc2) hc1) hl hst) hs hw h1) fun D σ H ⟨N, δ, A, P, rs, ra, h, hn, hr, hc, hx⟩ =>
    LE.use rs ra h (fun d A1 v1 H1 rv1 ra1 ex1 rs1 q1 => by
      split at q1
      · next d1 d2 =>
        obtain ⟨a, vs, rfl, hq, h2⟩ := rv_tup.mp rv1
        obtain ⟨w1, w2, rfl, r1, r2⟩ := rvs2 h2
        refine ⟨a, [w1, w2], rfl, by rw [C.K]; exact hq, rfl, w1, [w2], rfl, ?_⟩
        exact LE.use rs1 ra1 q1 (fun e2 A2 v2 H2 rv2 ra2 ex2 rs2 q2 => LE.use rs2 ra2 q2 (fun e3 A3 v3 H3 rv3 ra3 ex3 rs3 q3 => by
          have st := ((ex2.trans ex3).stay ra1)
          refine sub_run rs3 ra3 (RV.stay (ex3.stay ra2) _ _ rv2) rv3 (RV.stay st _ _ r1) q3 fun A4 H4 rs4 ra4 ex4 q4 => ?_
          refine ⟨w2, [], rfl, ?_⟩
          have st4 := (((ex2.trans ex3).trans ex4).stay ra1)
          have r2' := RV.stay st4 _ _ r2
          exact LE.use rs4 ra4 q4 (fun e5 A5 v5 H5 rv5 ra5 ex5 rs5 q5 => LE.use rs5 ra5 q5 (fun e6 A6 v6 H6 rv6 ra6 ex6 rs6 q6 => by
            refine sub_run rs6 ra6 (RV.stay (ex6.stay ra5) _ _ rv5) rv6 (RV.stay ((ex5.trans ex6).stay ra4) _ _ r2') q6 fun A7 H7 rs7 ra7 ex7 q7 => ?_
            exact ⟨rfl, hn δ A7 σ H7 rs7 ra7 ((((((ex1.trans ex2).trans ex3).trans ex4).trans ex5).trans ex6).trans ex7) q7⟩)
            (exq rs5 ra5 fun x δ' A' σ' H' r0 r e q => hx x δ' A' σ' H' r0 r (((((ex1.trans ex2).trans ex3).trans ex4).trans ex5).trans e) q))
            (exq rs4 ra4 fun x δ' A' σ' H' r0 r e q => hx x δ' A' σ' H' r0 r ((((ex1.trans ex2).trans ex3).trans ex4).trans e) q))
          (exq rs2 ra2 fun x δ' A' σ' H' r0 r e q => hx x δ' A' σ' H' r0 r ((ex1.trans ex2).trans e) q))
          (exq rs1 ra1 fun x δ' A' σ' H' r0 r e q => hx x δ' A' σ' H' r0 r (ex1.trans e) q)
      · exact q1.elim) (exq rs ra hx)
end
end DL

set_option Elab.async false
set_option linter.all false
set_option maxRecDepth 100000
set_option maxHeartbeats 1000000
/-! texts: split, join, strip, int of a text, signs, f-texts -/
namespace DL
open PySem PySem.Spec PyProof.Rows L2
section
variable {L : Lk} {G : Gm} {n : Nat} {X : Cx} {x : Str} {pos p apos : Pos} {e o a tg : Expr} {ie io ia : IE}
theorem isT_str {A : AH} {d : D} (h : isT .str A d) : ∃ z, d = .str z := by
  cases d with
  | str z => exact ⟨z, rfl⟩
  | ref b =>
    simp only [isT] at h
    split at h <;> exact h.elim
  | rod _ _ => exact (show False from h).elim
  | _ => exact (show False from h).elim
/-- a text's method of one thing -/
theorem de_sm1 {id : String} {name : Str} {m : BM} {r : V → List V → Hp → VK → Prop} (slot : Slot "str" name id) (ty : typeOf (.builtin id) = pure (.type "method_descriptor")) (rule : X.K = L.K → MtR X id r) (hr : DBm L r m) (ht : tyB m = .str) (ho : DE L G n X o io) (he : DE L G n X e ie)
    (hs : starEach [e] X.env = [(false, eval e X.env)]) (hbase : attributeBase o name X.env (eval o X.env) = eval o X.env) (hline : (apos.endLine == pos.line) = true) : DE L G n X (.Call (.Attribute o name apos) [e] [] pos) (.bm m io [ie]) := fun C W tk =>
  pe_imp (pe_m1 slot ty (rule C.K) (ho C W tk) (he C W tk) hs hbase hline) fun σ H Q ⟨N, δ, A, Qd, Ed, rs, ra, h, hq, hx⟩ =>
    LE.use rs ra h (fun x A1 v1 H1 rv1 ra1 ex1 rs1 q1 => by
      obtain ⟨q0, q1⟩ := q1
      rw [ht] at q0
      obtain ⟨z, rfl⟩ := isT_str q0
      exact ⟨⟨z, rv_str.mp rv1⟩, LE.use rs1 ra1 q1 (fun d A2 v2 H2 rv2 ra2 ex2 rs2 q2 =>
        hr (.str z) [d] v1 [v2] A2 N H2 Q Qd (RV.stay (ex2.stay ra1) _ _ rv1) (.cons rv2 .nil) ra2 q2 fun d A' v' H' r1 r2 e q => hq d A' v' H' r1 r2 ((ex1.trans ex2).trans e) q) (XW.ext hx ex1)⟩) hx
theorem alls_str {xs : List D} {ns : List Str} (h : alls str1 xs = some ns) : xs = ns.map .str := by
  induction xs generalizing ns with
  | nil => cases h; rfl
  | cons x r ih =>
    unfold alls at h
    split at h
    · next y ys e1 e2 =>
      cases h
      rw [ih e2]
      cases x <;> simp [str1] at e1
      rw [e1]; rfl
    · cases h
theorem rvs_strs {K : PySem.W.Frag} {A : AH} {N : Addr → Prop} {H : Hp} : ∀ zs : List Str, RVs K A N H (zs.map .str) (zs.map V.str)
  | [] => .nil
  | z :: zs => .cons (rv_str.mpr rfl) (rvs_strs zs)
def rSpl : V → List V → Hp → VK → Prop := fun x xs H Q => ∃ a b, x = .str a ∧ xs = [.str b] ∧ (b.length == 0) = false ∧ a.length + 2 ≤ sizeLine ∧ rNewStrs (Txt.split a b) H Q
theorem dbm_split : DBm L rSpl .split := by
  intro d ds v vs A N H Q Qd rx rv ra h k
  cases d with
  | str z =>
    match ds, rv, h with
    | [d], rv, h =>
      cases d with
      | str y =>
        obtain ⟨w, rfl, r⟩ := rvs1 rv
        have h : (y.length == 0) = false ∧ z.length + 2 ≤ sizeLine ∧ newL A ((Txt.split z y).map .str) Qd := h
        exact ⟨z, y, rv_str.mp rx, by rw [rv_str.mp r], h.1, h.2.1, k.lst ra (rvs_strs _) h.2.2⟩
      | _ => exact (show False from h).elim
    | [], _, h => exact (show False from h).elim
    | d :: _ :: _, _, h => cases d <;> exact (show False from h).elim
  | _ => exact (show False from by unfold dBm at h; split at h <;> first | exact h | contradiction).elim
def rStrp : V → List V → Hp → VK → Prop := fun x xs H Q => ∃ a b, x = .str a ∧ xs = [.str b] ∧ a.length ≤ sizeLine ∧ Q (.str (Txt.stripChars a b)) H
theorem dbm_strip : DBm L rStrp .strip := by
  intro d ds v vs A N H Q Qd rx rv ra h k
  cases d with
  | str z =>
    match ds, rv, h with
    | [d], rv, h =>
      cases d with
      | str y =>
        obtain ⟨w, rfl, r⟩ := rvs1 rv
        have h : z.length ≤ sizeLine ∧ Qd (.str (Txt.stripChars z y)) A := h
        exact ⟨z, y, rv_str.mp rx, by rw [rv_str.mp r], h.1, k.str ra h.2⟩
      | _ => exact (show False from h).elim
    | [], _, h => exact (show False from h).elim
    | d :: _ :: _, _, h => cases d <;> exact (show False from h).elim
  | _ => exact (show False from by unfold dBm at h; split at h <;> first | exact h | contradiction).elim
def rJoi (K : PySem.W.Frag) : V → List V → Hp → VK → Prop := fun x xs H Q => ∃ a p, ∃ ys : List Str, x = .str a ∧ xs = [.ref p] ∧ (SqL K H p (ys.map V.str) ∨ SqT K H p (ys.map V.str)) ∧ (ys.map (·.length)).sum + ys.length * a.length ≤ 16777216 ∧ Q (.str (Txt.join a ys)) H
theorem dbm_join : DBm L (rJoi L.K) .join := by
  intro d ds v vs A N H Q Qd rx rv ra h k
  cases d with
  | str z =>
    match ds, rv, h with
    | [d], rv, h =>
      obtain ⟨w, rfl, r⟩ := rvs1 rv
      have h : (match lstD A d with
        | some xs => match alls str1 xs with
          | some zs => (zs.map (·.length)).sum + zs.length * z.length ≤ 16777216 ∧ Qd (.str (Txt.join z zs)) A
          | none => False
        | none => False) := h
      split at h
      · next xs e =>
        split at h
        · next zs e2 =>
          obtain ⟨b, ws, rfl, h1, h2⟩ := lstD_rv e ra r
          rw [alls_str e2] at h2
          rw [h2.strs] at h1
          exact ⟨z, b, zs, rv_str.mp rx, rfl, .inl h1, h.1, k.str ra h.2⟩
        · exact h.elim
      · exact h.elim
    | [], _, h => exact (show False from h).elim
    | _ :: _ :: _, _, h => exact (show False from h).elim
  | _ => exact (show False from by unfold dBm at h; split at h <;> first | exact h | contradiction).elim
theorem m_split (ho : DE L G n X o io) (he : DE L G n X e ie) (hs : starEach [e] X.env = [(false, eval e X.env)] := by rfl) (hbase : attributeBase o "split" X.env (eval o X.env) = eval o X.env := by rfl) (hline : (apos.endLine == pos.line) = true := by rfl) : DE L G n X (.Call (.Attribute o "split" apos) [e] [] pos) (.bm .split io [ie]) :=
  de_sm1 PySem.F.slot_str_split PySem.F.type_str_split (fun _ => mt_split) dbm_split rfl ho he hs hbase hline
theorem m_strip (ho : DE L G n X o io) (he : DE L G n X e ie) (hs : starEach [e] X.env = [(false, eval e X.env)] := by rfl) (hbase : attributeBase o "strip" X.env (eval o X.env) = eval o X.env := by rfl) (hline : (apos.endLine == pos.line) = true := by rfl) : DE L G n X (.Call (.Attribute o "strip" apos) [e] [] pos) (.bm .strip io [ie]) :=
  de_sm1 PySem.F.slot_str_strip PySem.F.type_str_strip (fun _ => mt_stripChars) dbm_strip rfl ho he hs hbase hline
theorem m_join (ho : DE L G n X o io) (he : DE L G n X e ie) (hs : starEach [e] X.env = [(false, eval e X.env)] := by rfl) (hbase : attributeBase o "join" X.env (eval o X.env) = eval o X.env := by rfl) (hline : (apos.endLine == pos.line) = true := by rfl) : DE L G n X (.Call (.Attribute o "join" apos) [e] [] pos) (.bm .join io [ie]) :=
  de_sm1 PySem.F.slot_str_join PySem.F.type_str_join (fun h => by rw [← h]; exact mt_join) dbm_join rfl ho he hs hbase hline
/-- the signs of a text -/
theorem di_sgn (ha : DE L G n X a ia) : DI L G n X tg a .sgn [ia] := fun C W tk =>
  pi_imp (pi_str (ha C W tk)) fun σ H R ⟨N, δ, A, Rd, Ed, rs, ra, h, hq, hx⟩ =>
    LE.use rs ra h (fun d A1 v1 H1 rv1 ra1 ex1 rs1 q1 => by
      cases d with
      | str z => exact ⟨z, rv_str.mp rv1, hq _ _ A1 H1 _ dwk_str ra1 ex1 q1⟩
      | _ => exact (show False from q1).elim) hx
/-- int of a text -/
def rIntS : List V → Hp → VK → Prop := fun xs H Q => ∃ a n, xs = [.str a] ∧ PySem.intText? a = some n ∧ a.length ≤ 640 ∧ Q (.int n) H
theorem db_ints {L : Lk} : DBi L rIntS (dBi .ints) := by
  intro ds vs A N H Q Qd rv ra h k
  match ds, rv, h with
  | [d], rv, h =>
    obtain ⟨v, rfl, r⟩ := rvs1 rv
    cases d with
    | str z =>
      have h : (match PySem.intText? z with | some i => z.length ≤ 640 ∧ Qd (.int i) A | none => False) := h
      split at h
      · next i e => exact ⟨z, i, by rw [rv_str.mp r], e, h.1, k.int ra h.2⟩
      · exact h.elim
    | _ => exact (show False from h).elim
  | [], _, h => exact (show False from h).elim
  | d :: _ :: _, _, h => cases d <;> exact (show False from h).elim
theorem b_ints : BiR L X "int" (.type "int") .ints := ⟨.inr ⟨_, rfl, _, fun _ => call_int_str, fun _ => db_ints⟩, by decide +kernel, by decide, by decide⟩
/-! f-texts of names and signs -/
inductive DFs (L : Lk) (G : Gm) (n : Nat) (X : Cx) : List Expr → List IE → Prop where
  | nil : DFs L G n X [] []
  | fmt {e : Expr} {i : Nat} {pos : Pos} {es : List Expr} {ies : List IE} (h : DE L G n X e (.var i)) (r : DFs L G n X es ies) : DFs L G n X (.FormattedValue e (-1) none pos :: es) (.var i :: ies)
  | sgn {z : Str} {j : Nat} {pos : Pos} {es : List Expr} {ies : List IE} (r : DFs L G n X es ies) : DFs L G n X (.Constant (.str z) j pos :: es) (.cst (.str z) :: ies)
def tsF (L : Lk) (W : WX) (c : CallT) (G : Gm) : List IE → List TE
  | [] => []
  | .cst (.str z) :: r => tC (.str z) :: tsF L W c G r
  | e :: r => tFmt (LE L W (wpE c G e)) :: tsF L W c G r
theorem pj_of {W : WX} {es : List Expr} {ies : List IE} (h : DFs L G n X es ies) (C : Cn L G n X) (tk : Takes X W) : PJ X es (tsF L W (callN G n) G ies) := by
  induction h with
  | nil => exact .nil
  | fmt h r ih => exact .cons (pe_fmt (h C W tk)) ih
  | sgn r ih => exact .cons pe_str ih
theorem look_of {c : CallT} {es : List Expr} {ies : List IE} (h : DFs L G n X es ies) : ∀ {δ : DSt} {A : AH} {Qd : List D → AH → Prop} {Ed : XQ}, wpEs c G ies δ A Qd Ed → ∃ ds, wpEs c G ies δ A (fun ds' A' => ds' = ds ∧ A' = A) (fun _ _ => False) ∧ Qd ds A := by
  induction h with
  | nil => intro δ A Qd Ed q; exact ⟨[], ⟨rfl, rfl⟩, q⟩
  | @fmt e i pos es ies h r ih =>
    intro δ A Qd Ed q
    have q : (match δ[i]? with | some (some d) => wpEs c G ies δ A (fun ds A2 => Qd (d :: ds) A2) Ed | _ => False) := q
    cases e : δ[i]? with
    | none => rw [e] at q; exact q.elim
    | some o =>
      cases o with
      | none => rw [e] at q; exact q.elim
      | some d =>
        rw [e] at q
        obtain ⟨ds, h1, h2⟩ := ih q
        refine ⟨d :: ds, ?_, h2⟩
        show (match δ[i]? with | some (some d') => wpEs c G ies δ A (fun ds' A2 => d' :: ds' = d :: ds ∧ A2 = A) (fun _ _ => False) | _ => False)
        rw [e]
        show wpEs c G ies δ A (fun ds' A2 => d :: ds' = d :: ds ∧ A2 = A) (fun _ _ => False)
        have : (fun (ds' : List D) (A2 : AH) => ds' = ds ∧ A2 = A) = fun ds' A2 => d :: ds' = d :: ds ∧ A2 = A := by
          funext ds' A2; exact propext ⟨fun h => ⟨by rw [h.1], h.2⟩, fun h => ⟨by injection h.1, h.2⟩⟩
        rw [← this]; exact h1
  | @sgn z j pos es ies r ih =>
    intro δ A Qd Ed q
    have q : wpEs c G ies δ A (fun ds A2 => Qd (.str z :: ds) A2) Ed := q
    obtain ⟨ds, h1, h2⟩ := ih q
    refine ⟨.str z :: ds, ?_, h2⟩
    show wpEs c G ies δ A (fun ds' A2 => D.str z :: ds' = .str z :: ds ∧ A2 = A) (fun _ _ => False)
    have : (fun (ds' : List D) (A2 : AH) => ds' = ds ∧ A2 = A) = fun ds' A2 => D.str z :: ds' = .str z :: ds ∧ A2 = A := by
      funext ds' A2; exact propext ⟨fun h => ⟨by rw [h.1], h.2⟩, fun h => ⟨by injection h.1, h.2⟩⟩
    rw [← this]; exact h1
theorem len_app (a b : Str) : (a ++ b).length = a.length + b.length := by
  show (a.cps ++ b.cps).size = _
  rw [Array.size_append]; rfl
theorem alls_cons {α : Type} {f : D → Option α} {d : D} {ds : List D} {zs : List α} (h : alls f (d :: ds) = some zs) : ∃ z r, zs = z :: r ∧ f d = some z ∧ alls f ds = some r := by
  unfold alls at h
  split at h
  · next x xs e1 e2 => cases h; exact ⟨x, xs, rfl, e1, e2⟩
  · cases h
theorem tjs_of {W : WX} {c : CallT} {es : List Expr} {ies : List IE} (h : DFs L G n X es ies) : ∀ {N : Addr → Prop} {δ : DSt} {A : AH} {H : Hp} {σ : L2.St} {ds : List D} {zs : List Str} {acc : Str} {Q : Str → Hp → Prop}, RS L.K A N H δ σ → RA L A N H → wpEs c G ies δ A (fun ds' A' => ds' = ds ∧ A' = A) (fun _ _ => False) → (∀ d ∈ ds, fmtOk d) → alls txt1 ds = some zs → acc.length + (zs.map (·.length)).sum ≤ sizeLine → (∀ H', RA L A N H' → Ext A H A H' → Q (zs.foldl (· ++ ·) acc) H') → tJs (tsF L W c G ies) acc σ H Q := by
  induction h with
  | nil =>
    intro N δ A H σ ds zs acc Q rs ra hw hf hz hl hq
    obtain ⟨rfl, _⟩ := (show ([] : List D) = ds ∧ A = A from hw)
    cases hz
    exact hq H ra (Ext.refl _ _)
  | @fmt e i pos es ies h r ih =>
    intro N δ A H σ ds zs acc Q rs ra hw hf hz hl hq
    have hw : (match δ[i]? with | some (some d) => wpEs c G ies δ A (fun ds2 A2 => d :: ds2 = ds ∧ A2 = A) (fun _ _ => False) | _ => False) := hw
    cases e : δ[i]? with
    | none => rw [e] at hw; exact hw.elim
    | some o =>
      cases o with
      | none => rw [e] at hw; exact hw.elim
      | some d =>
        rw [e] at hw
        have hw : wpEs c G ies δ A (fun ds2 A2 => d :: ds2 = ds ∧ A2 = A) (fun _ _ => False) := hw
        obtain ⟨ds2, h1, h2, _⟩ := look_of r hw
        subst h2
        obtain ⟨z, zr, rfl, hz1, hz2⟩ := alls_cons hz
        rw [List.map_cons, List.sum_cons] at hl
        have hfd := hf d List.mem_cons_self
        have next : ∀ H', RA L A N H' → Ext A H A H' → RS L.K A N H' δ σ → (acc ++ z).length ≤ sizeLine ∧ tJs (tsF L W c G ies) (acc ++ z) σ H' Q := fun H' ra' ex rs' => by
          refine ⟨by rw [len_app]; omega, ?_⟩
          exact ih rs' ra' h1 (fun d hd => hf d (List.mem_cons_of_mem _ hd)) hz2 (by rw [len_app]; omega) fun H2 ra2 ex2 => hq H2 ra2 (ex.trans ex2)
        refine LE.use (Qd := fun d' A' => d' = d ∧ A' = A) (Ed := fun _ _ => False) rs ra ?_ (fun d' A' v H' rv ra' ex rs' q => ?_) (fun x A' H' _ _ q => q.elim)
        · show (match δ[i]? with | some (some d') => d' = d ∧ A = A | _ => False)
          rw [e]; exact ⟨rfl, rfl⟩
        · obtain ⟨rfl, rfl⟩ := q
          cases d' with
          | int j =>
            have hz1 : some (Str.ofString (toString j)) = some z := hz1
            cases hz1
            exact .inr ⟨j, rv_int.mp rv, hfd, _, rfl, next H' ra' ex rs'⟩
          | str y =>
            have hz1 : some y = some z := hz1
            cases hz1
            exact .inl ⟨_, rv_str.mp rv, hfd, _, rfl, next H' ra' ex rs'⟩
          | _ => exact (show False from hfd).elim
  | @sgn z j pos es ies r ih =>
    intro N δ A H σ ds zs acc Q rs ra hw hf hz hl hq
    have hw : wpEs c G ies δ A (fun ds2 A2 => D.str z :: ds2 = ds ∧ A2 = A) (fun _ _ => False) := hw
    obtain ⟨ds2, h1, h2, _⟩ := look_of r hw
    subst h2
    obtain ⟨z2, zr, rfl, hz1, hz2⟩ := alls_cons hz
    have hz1 : some z = some z2 := hz1
    cases hz1
    rw [List.map_cons, List.sum_cons] at hl
    exact ⟨z, rfl, by rw [len_app]; omega, ih rs ra h1 (fun d hd => hf d (List.mem_cons_of_mem _ hd)) hz2 (by rw [len_app]; omega) hq⟩
theorem de_fstr {v1 v2 : Expr} {rest : List Expr} {ies : List IE} (h : DFs L G n X (v1 :: v2 :: rest) ies) : DE L G n X (.JoinedStr (v1 :: v2 :: rest) pos) (.fstr ies) := fun C W tk =>
  pe_imp (pe_joined (pj_of h C tk)) fun σ H Q ⟨N, δ, A, Qd, Ed, rs, ra, hw, hq, hx⟩ => by
    obtain ⟨ds, h1, hf, h2⟩ := look_of h hw
    split at h2
    · next zs e =>
      obtain ⟨b1, b2, q⟩ := h2
      exact tjs_of h rs ra h1 hf e (by show 0 + _ ≤ _; omega) fun H' ra' ex => hq _ A _ H' (rv_str.mpr rfl) ra' ex q
    · exact h2.elim
/-! a text none or once -/
def rSmul : R2 := fun x y H Q => ∃ z k, x = .str z ∧ y = .int k ∧ ((k = 0 ∧ Q (.str Str.empty) H) ∨ (k = 1 ∧ Q (.str z) H))
theorem op_smul : OpR X (binaryOp .Mult) rSmul := by
  intro pins s σ H x y v u Q I rx ry h
  obtain ⟨z, k, rfl, rfl, h⟩ := h
  obtain ⟨t, rfl⟩ := rx
  obtain ⟨t', rfl⟩ := ry
  rcases h with ⟨rfl, q⟩ | ⟨rfl, q⟩
  · exact PySem.P.mul_str_none (by decide) (by decide) ⟨.str Str.empty, H, I.tok _, ⟨_, rfl⟩, q⟩
  · refine PySem.P.mul_str (by decide) (fun _ h => by simp at h) (fun _ h => by simp at h) ?_
    rw [if_neg (by decide), if_pos (by simp)]
    exact ⟨.str z, H, I, ⟨_, rfl⟩, q⟩
theorem o_smul {b : Expr} {ib : IE} (ha : DE L G n X a ia) (hb : DE L G n X b ib) : DE L G n X (.BinOp a .Mult b pos) (.bi .smul [ia, ib]) := fun C W tk =>
  pe_imp (pe_op op_smul (ha C W tk) (hb C W tk)) fun σ H Q ⟨N, δ, A, Qd, Ed, rs, ra, h, hq, hx⟩ =>
    LE.use rs ra h (fun x A1 v1 H1 rv1 ra1 ex1 rs1 q1 => LE.use rs1 ra1 q1 (fun y A2 v2 H2 rv2 ra2 ex2 rs2 q2 => by
      have r1 := RV.stay (ex2.stay ra1) _ _ rv1
      have ex := ex1.trans ex2
      cases x with
      | str z =>
        cases y with
        | int k =>
          have q2 : (k = 0 ∧ Qd (.str Str.empty) A2) ∨ (k = 1 ∧ Qd (.str z) A2) := q2
          refine ⟨z, k, rv_str.mp r1, rv_int.mp rv2, ?_⟩
          rcases q2 with ⟨e, q⟩ | ⟨e, q⟩
          · exact .inl ⟨e, hq _ A2 _ H2 (rv_str.mpr rfl) ra2 ex q⟩
          · exact .inr ⟨e, hq _ A2 _ H2 (rv_str.mpr rfl) ra2 ex q⟩
        | _ => exact (show False from q2).elim
      | _ => cases y <;> exact (show False from q2).elim) (XW.ext hx ex1)) hx
/-! one sign in a text -/
def rSgnIn : R2 := fun x y H Q => ∃ (c : Nat) (z : Str), x = .str ⟨#[c]⟩ ∧ y = .str z ∧ Q (.bl (decide (c ∈ z.cps.toList))) H
theorem dop_sgin : DOp L rSgnIn (dCmp .sin) := by
  intro x y v u A N H Q Qd rx ry ra h k
  cases x with
  | str t =>
    cases y with
    | str z =>
      have h : (match t.cps.toList with | [c] => Qd (.bl (decide (c ∈ z.cps.toList))) A | _ => False) := h
      split at h
      · next c e =>
        have et : t = ⟨#[c]⟩ := by
          obtain ⟨cps⟩ := t
          have : cps = #[c] := Array.toList_inj.mp e
          rw [this]
        subst et
        exact ⟨c, z, rv_str.mp rx, rv_str.mp ry, k.bl ra h⟩
      · exact h.elim
    | _ => exact (show False from h).elim
  | _ => cases y <;> exact (show False from h).elim
theorem k_sin : CmpR L X .In .sin := ⟨_, op_in_sign, fun _ => dop_sgin⟩
theorem sinE {b : Expr} {ib : IE} (ha : DE L G n X a ia) (hb : DE L G n X b ib) (hm : behindInMarks .In b = false := by rfl) : DE L G n X (.Compare a [.In] [b] pos) (.cmp .sin ia ib) := cmpE k_sin ha hb hm
theorem sinT {b : Expr} {ib : IE} (ha : DE L G n X a ia) (hb : DE L G n X b ib) (hm : behindInMarks .In b = false := by rfl) : DT L G n X (.Compare a [.In] [b] pos) (.val (.cmp .sin ia ib)) := cmpT k_sin ha hb hm
end
end DL

set_option Elab.async false
set_option linter.all false
set_option maxRecDepth 100000
set_option maxHeartbeats 1000000
/-! zip of a list with a tuple -/
namespace DL
open PySem PySem.Spec PyProof.Rows L2
open PySem.Sem (wp)
section
variable {prog : Program} {w : World} {A : Around} {E : Value → Shared → Prop} {s : Shared}
theorem zipM_next_item {zz tI tO i1 i2 l1 l2 : Addr} {k1 k2 : Nat} {xs ys : Array Value} {x y a b : Value} {Q : Value → Shared → Prop} (D : ZipApart zz tI tO i1 i2 l1 l2)
    (kz : IsZip s.heap zz tI tO .none) (kI : IsPair s.heap tI (.ref i1) (.ref i2)) (kO : IsPair s.heap tO a b)
    (g1 : s.heap.IsListIter i1 l1 k1) (g2 : s.heap.IsTupleIter i2 l2 k2) (gl1 : s.heap.IsList l1 xs) (gl2 : s.heap.IsTuple l2 ys) (ex : xs[k1]? = some x) (ey : ys[k2]? = some y)
    (kQ : ∀ h', IsZip h' zz tI tO (rawInt s.heap.objs.size) → IsPair h' tO x y → h'.IsListIter i1 l1 (k1 + 1) → h'.IsTupleIter i2 l2 (k2 + 1) → IsPair h' s.heap.objs.size x y → h'.objs.size = s.heap.objs.size + 1 →
      (∀ c o, c ≠ zz → c ≠ tO → c ≠ i1 → c ≠ i2 → s.heap.get? c = some o → h'.get? c = some o) → Q (.ref s.heap.objs.size) { s with heap := h' }) :
    wpAny (model prog w) A (Builtin.«zip.__next__» ⟨[.ref zz], []⟩) (fun fin s' => ∃ v, fin = .done (.ret v) ∧ Q v s') E s := by
  show wpAny _ _ (field (.ref zz) 2 >>= _) _ _ _
  refine wpAny_bind (wpAny_field kz rfl (x := .bool false) rfl ?_)
  show wpAny _ _ (field (.ref zz) 3 >>= _) _ _ _
  refine wpAny_bind (wpAny_field kz rfl (x := .ref tI) rfl ?_)
  refine wpAny_bind (wpAny_seqItems kI rfl ?_)
  show wpAny _ _ (Builtin.SmallTypes.ownedTupleIsFree (.ref zz) >>= _) _ _ _
  refine wpAny_bind ?_
  unfold Builtin.SmallTypes.ownedTupleIsFree
  refine wpAny_bind (wpAny_field kz rfl (x := .none) rfl (wpAny_pure ?_))
  simp only [if_true]
  refine wpAny_bind (wpAny_rule ?_)
  refine wpAny_bind (wpAny_field kz rfl (x := .ref tO) rfl ?_)
  refine wpAny_bind (wpAny_setField_rec kz (by simp) fun w₁ kz₁ ks₁ => ?_)
  replace kz₁ : IsZip w₁ zz tI tO .ellipsis := kz₁
  refine wpAny_bind ?_
  simp only [List.zipIdx_cons, List.zipIdx_nil, List.forIn_cons, List.forIn_nil]

  refine wpAny_bind (wpAny_bind (wpAny_onRaise ?_))
  show wpAny _ _ (Builtin.SmallTypes.nextOf (.ref i1) >>= _) _ _ _
  refine wpAny_bind (wpAny_nextOf_list_item (g1.extBut ks₁.extBut D.i1z) (gl1.extBut ks₁.extBut D.l1z) ex fun w₂ g1₂ ks₂ => wpAny_pure ?_)
  have kO₂ : IsPair w₂ tO a b := ks₂.extBut _ _ D.TOi1 (ks₁.extBut _ _ D.TOz kO)
  refine wpAny_bind (wpAny_seqItems kO₂ rfl ?_)
  refine wpAny_bind (wpAny_updateSeq_pair kO₂ fun w₃ kO₃ ks₃ => ?_)
  replace kO₃ : IsPair w₃ tO x b := kO₃
  refine wpAny_bind (wpAny_letGo (wpAny_pure ?_))

  refine wpAny_bind (wpAny_bind (wpAny_onRaise ?_))
  show wpAny _ _ (Builtin.SmallTypes.nextOf (.ref i2) >>= _) _ _ _
  refine wpAny_bind (RZ.nextOf_tuple_item (((g2.extBut ks₁.extBut D.i2z).extBut ks₂.extBut D.i12.symm).extBut ks₃.extBut D.TOi2.symm)
    (((gl2.extBut ks₁.extBut D.l2z).extBut ks₂.extBut D.l2i1).extBut ks₃.extBut D.l2TO) ey fun w₄ g2₄ ks₄ => wpAny_pure ?_)
  have kO₄ : IsPair w₄ tO x b := ks₄.extBut _ _ D.TOi2 kO₃
  refine wpAny_bind (wpAny_seqItems kO₄ rfl ?_)
  refine wpAny_bind (wpAny_updateSeq_pair kO₄ fun w₅ kO₅ ks₅ => ?_)
  replace kO₅ : IsPair w₅ tO x y := kO₅
  refine wpAny_bind (wpAny_letGo (wpAny_pure (wpAny_pure ?_)))

  refine wpAny_bind (wpAny_seqItems kO₅ rfl ?_)
  refine wpAny_bind (wpAny_newTuple ?_)
  have esz : w₅.objs.size = s.heap.objs.size := by rw [ks₅.1, ks₄.1, ks₃.1, ks₂.1, ks₁.1]
  have kz₅ : IsZip w₅ zz tI tO .ellipsis := ks₅.extBut _ _ D.TOz.symm (ks₄.extBut _ _ D.i2z.symm (ks₃.extBut _ _ D.TOz.symm (ks₂.extBut _ _ D.i1z.symm kz₁)))
  have kk₅ : ∀ c o, c ≠ zz → c ≠ tO → c ≠ i1 → c ≠ i2 → s.heap.get? c = some o → w₅.get? c = some o := fun c o c1 c2 c3 c4 e =>
    ks₅.extBut _ _ c2 (ks₄.extBut _ _ c4 (ks₃.extBut _ _ c2 (ks₂.extBut _ _ c3 (ks₁.extBut _ _ c1 e))))
  have g1₅ : w₅.IsListIter i1 l1 (k1 + 1) := ((g1₂.extBut ks₃.extBut D.TOi1.symm).extBut ks₄.extBut D.i12).extBut ks₅.extBut D.TOi1.symm
  have g2₅ : w₅.IsTupleIter i2 l2 (k2 + 1) := g2₄.extBut ks₅.extBut D.TOi2.symm
  have zlt : zz < w₅.objs.size := Heap.lt_size kz₅
  have tOlt : tO < w₅.objs.size := Heap.lt_size kO₅
  have i1lt : i1 < w₅.objs.size := by obtain ⟨_, e, _⟩ := g1₅; exact Heap.lt_size e
  have i2lt : i2 < w₅.objs.size := by obtain ⟨_, e, _⟩ := g2₅; exact Heap.lt_size e
  show wpAny _ _ (Builtin.SmallTypes.ownedTupleHandOut (.ref zz) (.ref w₅.objs.size) >>= _) _ _ _
  refine wpAny_bind ?_
  unfold Builtin.SmallTypes.ownedTupleHandOut
  have kz₆ : IsZip (w₅.push { cls := .type "tuple", data := .seq #[x, y] }) zz tI tO .ellipsis := Heap.get?_push_of_some _ kz₅
  refine wpAny_bind (wpAny_setField_rec kz₆ (by simp) fun w₇ kz₇ ks₇ => ?_)
  replace kz₇ : IsZip w₇ zz tI tO (rawInt w₅.objs.size) := kz₇
  refine wpAny_setField_rec kz₇ (by simp) fun w₈ kz₈ ks₈ => ?_
  replace kz₈ : IsZip w₈ zz tI tO (rawInt w₅.objs.size) := kz₈
  have up : ∀ c o, c ≠ zz → w₅.get? c = some o → w₈.get? c = some o := fun c o c1 e => ks₈.extBut _ _ c1 (ks₇.extBut _ _ c1 (Heap.get?_push_of_some _ e))
  have kT₈ : IsPair w₈ w₅.objs.size x y := ks₈.extBut _ _ (Nat.ne_of_gt zlt) (ks₇.extBut _ _ (Nat.ne_of_gt zlt) (Heap.get?_push_size _ rfl))
  have kz8 : w₈.objs.size = w₅.objs.size + 1 := by rw [ks₈.1, ks₇.1, Heap.size_push]
  rw [esz] at kz₈ kT₈ kz8
  refine wpAny_pure ⟨_, rfl, ?_⟩
  show Q (.ref w₅.objs.size) _
  rw [esz]
  exact kQ w₈ kz₈ (up _ _ D.TOz kO₅) (g1₅.at fun o e => up _ o D.i1z e) (g2₅.at fun o e => up _ o D.i2z e) kT₈ kz8 fun c o c1 c2 c3 c4 e => up c o c1 (kk₅ c o c1 c2 c3 c4 e)
theorem zipM_next_end {zz tI tO i1 i2 l1 l2 : Addr} {k1 k2 : Nat} {xs ys : Array Value} {a b : Value} {Q : Fin → Shared → Prop} (hh : A.handled = none) (D : ZipApart zz tI tO i1 i2 l1 l2)
    (kz : IsZip s.heap zz tI tO .none) (kI : IsPair s.heap tI (.ref i1) (.ref i2)) (kO : IsPair s.heap tO a b)
    (g1 : s.heap.IsListIter i1 l1 k1) (g2 : s.heap.IsTupleIter i2 l2 k2) (gl1 : s.heap.IsList l1 xs) (gl2 : s.heap.IsTuple l2 ys) (kend : xs[k1]? = none ∨ ys[k2]? = none)
    (kE : ∀ h' e, (∀ c o, c ≠ zz → c ≠ tO → c ≠ i1 → c ≠ i2 → s.heap.get? c = some o → h'.get? c = some o) → (∃ o, h'.get? e = some o ∧ o.cls = .type "StopIteration") → E (.ref e) { s with heap := h' }) :
    wpAny (model prog w) A (Builtin.«zip.__next__» ⟨[.ref zz], []⟩) Q E s := by
  show wpAny _ _ (field (.ref zz) 2 >>= _) _ _ _
  refine wpAny_bind (wpAny_field kz rfl (x := .bool false) rfl ?_)
  show wpAny _ _ (field (.ref zz) 3 >>= _) _ _ _
  refine wpAny_bind (wpAny_field kz rfl (x := .ref tI) rfl ?_)
  refine wpAny_bind (wpAny_seqItems kI rfl ?_)
  show wpAny _ _ (Builtin.SmallTypes.ownedTupleIsFree (.ref zz) >>= _) _ _ _
  refine wpAny_bind ?_
  unfold Builtin.SmallTypes.ownedTupleIsFree
  refine wpAny_bind (wpAny_field kz rfl (x := .none) rfl (wpAny_pure ?_))
  simp only [if_true]
  refine wpAny_bind (wpAny_rule ?_)
  refine wpAny_bind (wpAny_field kz rfl (x := .ref tO) rfl ?_)
  refine wpAny_bind (wpAny_setField_rec kz (by simp) fun w₁ kz₁ ks₁ => ?_)
  replace kz₁ : IsZip w₁ zz tI tO .ellipsis := kz₁
  refine wpAny_bind ?_
  simp only [List.zipIdx_cons, List.zipIdx_nil, List.forIn_cons, List.forIn_nil]
  refine wpAny_bind (wpAny_bind (wpAny_onRaise ?_))
  show wpAny _ _ (Builtin.SmallTypes.nextOf (.ref i1) >>= _) _ _ _
  cases ex : xs[k1]? with
  | none =>
    refine wpAny_bind (wpAny_nextOf_list_end hh (g1.extBut ks₁.extBut D.i1z) (gl1.extBut ks₁.extBut D.l1z) ex fun w₂ e ks₂ he => ?_)
    obtain ⟨oe, eoe, ece⟩ := he
    have kz₂ : IsZip w₂ zz tI tO .ellipsis := ks₂ _ _ D.i1z.symm kz₁
    have eez : e ≠ zz := fun x => by subst x; rw [kz₂] at eoe; cases eoe; simp at ece
    refine wpAny_setField_rec kz₂ (by simp) fun w₃ _ ks₃ => kE w₃ e (fun c o c1 _ c3 _ x => ks₃.extBut _ _ c1 (ks₂ _ _ c3 (ks₁.extBut _ _ c1 x))) ⟨oe, ks₃.extBut _ _ eez eoe, ece⟩
  | some x =>
    have ey : ys[k2]? = none := by rcases kend with h | h; rw [ex] at h; cases h; exact h
    refine wpAny_bind (wpAny_nextOf_list_item (g1.extBut ks₁.extBut D.i1z) (gl1.extBut ks₁.extBut D.l1z) ex fun w₂ g1₂ ks₂ => wpAny_pure ?_)
    have kO₂ : IsPair w₂ tO a b := ks₂.extBut _ _ D.TOi1 (ks₁.extBut _ _ D.TOz kO)
    refine wpAny_bind (wpAny_seqItems kO₂ rfl ?_)
    refine wpAny_bind (wpAny_updateSeq_pair kO₂ fun w₃ kO₃ ks₃ => ?_)
    refine wpAny_bind (wpAny_letGo (wpAny_pure ?_))
    refine wpAny_bind (wpAny_bind (wpAny_onRaise ?_))
    show wpAny _ _ (Builtin.SmallTypes.nextOf (.ref i2) >>= _) _ _ _
    refine wpAny_bind (RZ.nextOf_tuple_end hh (((g2.extBut ks₁.extBut D.i2z).extBut ks₂.extBut D.i12.symm).extBut ks₃.extBut D.TOi2.symm)
      (((gl2.extBut ks₁.extBut D.l2z).extBut ks₂.extBut D.l2i1).extBut ks₃.extBut D.l2TO) ey fun w₄ e ks₄ he => ?_)
    obtain ⟨oe, eoe, ece⟩ := he
    have kz₄ : IsZip w₄ zz tI tO .ellipsis := ks₄ _ _ D.i2z.symm (ks₃.extBut _ _ D.TOz.symm (ks₂.extBut _ _ D.i1z.symm kz₁))
    have eez : e ≠ zz := fun x => by subst x; rw [kz₄] at eoe; cases eoe; simp at ece
    refine wpAny_setField_rec kz₄ (by simp) fun w₅ _ ks₅ => kE w₅ e (fun c o c1 c2 c3 c4 x => ks₅.extBut _ _ c1 (ks₄ _ _ c4 (ks₃.extBut _ _ c2 (ks₂.extBut _ _ c3 (ks₁.extBut _ _ c1 x))))) ⟨oe, ks₅.extBut _ _ eez eoe, ece⟩
theorem pyNext_zipM_item {zz tI tO i1 i2 l1 l2 : Addr} {k1 k2 : Nat} {xs ys : Array Value} {x y a b : Value} {Q : Option Value → Shared → Prop} (D : ZipApart zz tI tO i1 i2 l1 l2)
    (kz : IsZip s.heap zz tI tO .none) (kI : IsPair s.heap tI (.ref i1) (.ref i2)) (kO : IsPair s.heap tO a b)
    (g1 : s.heap.IsListIter i1 l1 k1) (g2 : s.heap.IsTupleIter i2 l2 k2) (gl1 : s.heap.IsList l1 xs) (gl2 : s.heap.IsTuple l2 ys) (ex : xs[k1]? = some x) (ey : ys[k2]? = some y)
    (kQ : ∀ h', IsZip h' zz tI tO (rawInt s.heap.objs.size) → IsPair h' tO x y → h'.IsListIter i1 l1 (k1 + 1) → h'.IsTupleIter i2 l2 (k2 + 1) → IsPair h' s.heap.objs.size x y → h'.objs.size = s.heap.objs.size + 1 →
      (∀ c o, c ≠ zz → c ≠ tO → c ≠ i1 → c ≠ i2 → s.heap.get? c = some o → h'.get? c = some o) → Q (some (.ref s.heap.objs.size)) { s with heap := h' }) :
    wpAny (model prog w) A (pyNext (.ref zz)) Q E s := by
  have kT : s.TypeIs (.ref zz) "zip" := ⟨_, kz, rfl⟩
  unfold pyNext
  exact wpAny_bind (wpAny_attempt (wpAny_callSpecial?_slot (name := Str.ofString "__next__") kT F.slot_zip_next
    (wpAny_call_entry F.slot_zip_next kT F.entry_zip_next
      (zipM_next_item D kz kI kO g1 g2 gl1 gl2 ex ey fun h' a1 a2 a3 a4 a5 a6 a7 => wpAny_pure (kQ h' a1 a2 a3 a4 a5 a6 a7)) (F.args_zip_next_1 _))))
theorem pyNext_zipM_end {zz tI tO i1 i2 l1 l2 : Addr} {k1 k2 : Nat} {xs ys : Array Value} {a b : Value} {Q : Option Value → Shared → Prop} (hh : A.handled = none) (D : ZipApart zz tI tO i1 i2 l1 l2)
    (kz : IsZip s.heap zz tI tO .none) (kI : IsPair s.heap tI (.ref i1) (.ref i2)) (kO : IsPair s.heap tO a b)
    (g1 : s.heap.IsListIter i1 l1 k1) (g2 : s.heap.IsTupleIter i2 l2 k2) (gl1 : s.heap.IsList l1 xs) (gl2 : s.heap.IsTuple l2 ys) (kend : xs[k1]? = none ∨ ys[k2]? = none)
    (kQ : ∀ h', (∀ c o, c ≠ zz → c ≠ tO → c ≠ i1 → c ≠ i2 → s.heap.get? c = some o → h'.get? c = some o) → Q none { s with heap := h' }) : wpAny (model prog w) A (pyNext (.ref zz)) Q E s := by
  have kT : s.TypeIs (.ref zz) "zip" := ⟨_, kz, rfl⟩
  unfold pyNext
  refine wpAny_bind (wpAny_attempt (wpAny_callSpecial?_slot (name := Str.ofString "__next__") kT F.slot_zip_next
    (wpAny_call_entry F.slot_zip_next kT F.entry_zip_next (zipM_next_end hh D kz kI kO g1 g2 gl1 gl2 kend fun h' e hk he => ?_) (F.args_zip_next_1 _))))
  obtain ⟨o, ho, hc⟩ := he
  refine wpAny_bind (wpAny_isInstance (T := "StopIteration") (b := true) ⟨o, ho, hc⟩ isSubtype_stop ?_)
  exact wpAny_pure (kQ _ hk)
end
abbrev zipMH1 (h : Heap) (l1 : Addr) : Heap := h.push { cls := .type "list_iterator", data := .fields #[.ref l1, .int 0 0] }
abbrev zipMH2 (h : Heap) (l1 l2 : Addr) : Heap := (zipMH1 h l1).push { cls := .type "tuple_iterator", data := .fields #[.ref l2, .int 0 0] }
abbrev zipMH3 (h : Heap) (l1 l2 : Addr) : Heap := (zipMH2 h l1 l2).push { cls := .type "tuple", data := .seq #[.ref h.objs.size, .ref (zipMH1 h l1).objs.size] }
abbrev zipMH4 (h : Heap) (l1 l2 : Addr) : Heap := (zipMH3 h l1 l2).push { cls := .type "tuple", data := .seq #[.none, .none] }
abbrev zipMH5 (h : Heap) (l1 l2 : Addr) : Heap := (zipMH4 h l1 l2).push { cls := .type "zip", data := .fields #[.none, .bool false, .bool false, .ref (zipMH2 h l1 l2).objs.size, .ref (zipMH3 h l1 l2).objs.size] }
theorem meets_zipM_new (l1 l2 : Addr) (xs ys : Array Value) :
    Meets (Builtin.«zip.__new__» ⟨[.type "zip", .ref l1, .ref l2], []⟩) (fun _ R s => s.heap.IsList l1 xs ∧ s.heap.IsTuple l2 ys ∧
      R (.ok (.ret (.ref (zipMH4 s.heap l1 l2).objs.size))) { s with heap := zipMH5 s.heap l1 l2 }) :=
  .of_wp fun prog w A R s h => by
    obtain ⟨hp, g, d, tk, os⟩ := s; obtain ⟨hl1, hl2, h⟩ := h
    have hsub := sub_zip
    have hL1 : Heap.IsList (Shared.heap ⟨hp, g, d, tk, os⟩) l1 xs := hl1
    have hL2 : Heap.IsTuple (Shared.heap ⟨hp.push { cls := .type "list_iterator", data := .fields #[.ref l1, .int 0 0] }, g, d, tk, os⟩) l2 ys := Heap.IsTuple.push hl2 _
    wp_walk using wpAny_pyIter_list hL1, wpAny_pyIter_tuple hL2
    exact ⟨_, rfl, h⟩
section
variable {prog : Program} {w : World} {A : Around} {E : Value → Shared → Prop} {s : Shared}
theorem call_zipM {l1 l2 : Addr} {xs ys : Array Value} {Q : Value → Shared → Prop} (hl1 : s.heap.IsList l1 xs) (hl2 : s.heap.IsTuple l2 ys)
    (h : ∀ h', IsZip h' (s.heap.objs.size + 4) (s.heap.objs.size + 2) (s.heap.objs.size + 3) .none → IsPair h' (s.heap.objs.size + 2) (.ref s.heap.objs.size) (.ref (s.heap.objs.size + 1)) →
      IsPair h' (s.heap.objs.size + 3) .none .none → h'.IsListIter s.heap.objs.size l1 0 → h'.IsTupleIter (s.heap.objs.size + 1) l2 0 → h'.objs.size = s.heap.objs.size + 5 →
      (∀ c o, s.heap.get? c = some o → h'.get? c = some o) → Q (.ref (s.heap.objs.size + 4)) { s with heap := h' }) :
    wpAny (model prog w) A (call (.type "zip") [.ref l1, .ref l2]) Q E s := by
  refine callType_new F.called_zip (by decide) (F.typeCall_zip_2 _ _) (F.newCall_zip_2 _ _) (fun obj => F.args_object_init_3 obj _ _) F.entry_zip_new
    (meets_zipM_new l1 l2 xs ys) ⟨hl1, hl2, ?_⟩
  have z1 : (zipMH1 s.heap l1).objs.size = s.heap.objs.size + 1 := Heap.size_push ..
  have z2 : (zipMH2 s.heap l1 l2).objs.size = s.heap.objs.size + 2 := by rw [Heap.size_push, z1]
  have z3 : (zipMH3 s.heap l1 l2).objs.size = s.heap.objs.size + 3 := by rw [Heap.size_push, z2]
  have z4 : (zipMH4 s.heap l1 l2).objs.size = s.heap.objs.size + 4 := by rw [Heap.size_push, z3]
  have z5 : (zipMH5 s.heap l1 l2).objs.size = s.heap.objs.size + 5 := by rw [Heap.size_push, z4]
  have g5 : (zipMH5 s.heap l1 l2).get? (zipMH4 s.heap l1 l2).objs.size = some _ := Heap.get?_push_size _ rfl
  have g4 : (zipMH5 s.heap l1 l2).get? (zipMH3 s.heap l1 l2).objs.size = some _ := Heap.get?_push_of_some _ (Heap.get?_push_size _ rfl)
  have g3 : (zipMH5 s.heap l1 l2).get? (zipMH2 s.heap l1 l2).objs.size = some _ := Heap.get?_push_of_some _ (Heap.get?_push_of_some _ (Heap.get?_push_size _ rfl))
  have g2 : (zipMH5 s.heap l1 l2).get? (zipMH1 s.heap l1).objs.size = some _ := Heap.get?_push_of_some _ (Heap.get?_push_of_some _ (Heap.get?_push_of_some _ (Heap.get?_push_size _ rfl)))
  have g1 : (zipMH5 s.heap l1 l2).get? s.heap.objs.size = some _ := Heap.get?_push_of_some _ (Heap.get?_push_of_some _ (Heap.get?_push_of_some _ (Heap.get?_push_of_some _ (Heap.get?_push_size _ rfl))))
  show _ ∧ _
  rw [z2, z3, z4] at g5
  rw [z1, z2] at g3
  rw [z3] at g4
  rw [z1] at g2
  rw [z4]
  exact ⟨⟨_, g5, rfl⟩, h _ g5 g3 g4 ⟨_, g1, rfl, rfl⟩ ⟨_, g2, rfl, rfl⟩ z5 fun c o x =>
    Heap.get?_push_of_some _ (Heap.get?_push_of_some _ (Heap.get?_push_of_some _ (Heap.get?_push_of_some _ (Heap.get?_push_of_some _ x))))⟩
end
def ItzM (K : PySem.W.Frag) (a b : Addr) : It :=
  ⟨fun i H => ∃ (xs ys : List V) (x y : V), SqL K H a xs ∧ SqT K H b ys ∧ xs[i]? = some x ∧ ys[i]? = some y,
    fun i H v H' => ∃ T x y, v = .ref T ∧ H T = none ∧ H' = upd H T (.tup [x, y]) ∧ (∀ xs, SqL K H a xs → xs[i]? = some x) ∧ ∀ ys, SqT K H b ys → ys[i]? = some y,
    fun i H => ∃ xs ys : List V, SqL K H a xs ∧ SqT K H b ys ∧ (xs.length ≤ i ∨ ys.length ≤ i)⟩
theorem turn_zipM {P : Program} {w : World} {K : PySem.W.Frag} {elts : List Expr} {kk : Nat} {tpos : Pos} {a b z TI TO i1 i2 : Addr} (D : ZipApart z TI TO i1 i2 a b) :
    Turn P w K (.Tuple elts kk tpos) (ItzM K a b) [z, TI, TO, i1, i2] z (fun i h => IsZip h z TI TO .none ∧ IsPair h TI (.ref i1) (.ref i2) ∧ (∃ x y, IsPair h TO x y) ∧ h.IsListIter i1 a i ∧ h.IsTupleIter i2 b i) where
  mem := by simp
  obj := fun i h st c hc => by
    obtain ⟨hz, hTI, ⟨x, y, hTO⟩, ⟨o1, e1, _, d1⟩, ⟨o2, e2, _, d2⟩⟩ := st
    have e' : c = z ∨ c = TI ∨ c = TO ∨ c = i1 ∨ c = i2 := by simpa using hc
    rcases e' with q | q | q | q | q
    · rw [q]; exact ⟨_, hz, fun v q => nomatch q⟩
    · rw [q]; exact ⟨_, hTI, fun v q => nomatch q⟩
    · rw [q]; exact ⟨_, hTO, fun v q => nomatch q⟩
    · rw [q]; exact ⟨o1, e1, fun v q => by rw [d1] at q; cases q⟩
    · rw [q]; exact ⟨o2, e2, fun v q => by rw [d2] at q; cases q⟩
  keep := fun i h h' st k => by
    obtain ⟨hz, hTI, ⟨x, y, hTO⟩, h1, h2⟩ := st
    exact ⟨k z (by simp) _ hz, k TI (by simp) _ hTI, ⟨x, y, k TO (by simp) _ hTO⟩, h1.at fun o q => k i1 (by simp) o q, h2.at fun o q => k i2 (by simp) o q⟩
  item := by
    intro X hP hw hK hc i pins s σ H E I hf st hg
    subst hP hw hK
    obtain ⟨hz, hTI, ⟨x0, y0, hTO⟩, h1, h2⟩ := st
    obtain ⟨xs, ys, x, y, hqx, hqy, hx, hy⟩ := hg
    obtain ⟨its, rv, p0, _⟩ := I.list hqx
    have p := p0.isList
    obtain ⟨its2, rv2, p2, _⟩ := I.tuple hqy
    obtain ⟨u, hu, ru⟩ := rv.get hx
    obtain ⟨u2, hu2, ru2⟩ := rv2.get hy
    have hzl : z < s.heap.objs.size := Heap.lt_size hz
    refine pyNext_zipM_item D hz hTI hTO h1 h2 p p2 (x := u) (y := u2) (by simpa using hu) (by simpa using hu2) fun h' z' TO' h1' h2' hT hsz hk => ?_
    refine ⟨_, rfl, wpAny_letOwnedTupleGo_zip (s := { s with heap := h' }) z' fun h'' z'' sb => ?_⟩
    have hT2 : h''.get? s.heap.objs.size = some { cls := .type "tuple", data := .seq #[u, u2] } := (sb.2 _ (Nat.ne_of_gt hzl)).trans hT
    have new : ObjOk X.prog X.w (upd H s.heap.objs.size (.tup [x, y])) h'' s.heap.objs.size (.tup [x, y]) :=
      ⟨by show 2 ≤ sizeLine; decide, [u, u2], .cons ru (.cons ru2 .nil), ⟨_, hT2, rfl, _, rfl⟩⟩
    have I1 : Inv X pins σ (upd H s.heap.objs.size (.tup [x, y])) { s with heap := h'' } :=
      I.turnedNew (t' := s.toks) (ch := [z, TI, TO, i1, i2]) (fun c o hb q => (sb.2 c (fun q' => hb (by simp [q']))).trans (hk c o (fun q' => hb (by simp [q'])) (fun q' => hb (by simp [q'])) (fun q' => hb (by simp [q'])) (fun q' => hb (by simp [q'])) q)) hf (Nat.le_refl _) new
    refine ⟨.ref s.heap.objs.size, _, I1, rfl, ⟨_, x, y, rfl, I.hok.fresh (Nat.le_refl _), rfl, fun l hl => by rw [I.list_inj hl hqx]; exact hx, fun l hl => by rw [I.tuple_inj hl hqy]; exact hy⟩, ⟨z'', ?_, ⟨u, u2, ?_⟩, ?_, ?_⟩, fun c hcm => ?_⟩
    · exact (sb.2 _ D.TIz).trans (hk _ _ D.TIz D.TITO D.TIi1 D.TIi2 hTI)
    · exact (sb.2 _ D.TOz).trans TO'
    · exact h1'.at fun o q => (sb.2 _ D.i1z).trans q
    · exact h2'.at fun o q => (sb.2 _ D.i2z).trans q
    · have hlt : c < s.heap.objs.size := by
        have e' : c = z ∨ c = TI ∨ c = TO ∨ c = i1 ∨ c = i2 := by simpa using hcm
        rcases e' with q | q | q | q | q
        · rw [q]; exact hzl
        · rw [q]; exact Heap.lt_size hTI
        · rw [q]; exact Heap.lt_size hTO
        · rw [q]; obtain ⟨_, e1, _⟩ := h1; exact Heap.lt_size e1
        · rw [q]; obtain ⟨_, e2, _⟩ := h2; exact Heap.lt_size e2
      rw [upd_ne (Nat.ne_of_lt hlt)]
      exact (hf c hcm).1
  done := by
    intro X hP hw hK hc i pins s σ H E I hf st hg
    subst hP hw hK
    obtain ⟨hz, hTI, ⟨x0, y0, hTO⟩, h1, h2⟩ := st
    obtain ⟨xs, ys, hqx, hqy, hend⟩ := hg
    obtain ⟨its, rv, p0, _⟩ := I.list hqx
    have p := p0.isList
    obtain ⟨its2, rv2, p2, _⟩ := I.tuple hqy
    have l1 := rv.length
    have l2 := rv2.length
    have he : its.toArray[i]? = none ∨ its2.toArray[i]? = none := by
      rcases hend with q | q
      · exact .inl (by simp; omega)
      · exact .inr (by simp; omega)
    exact pyNext_zipM_end (I.ok.hd hc) D hz hTI hTO h1 h2 p p2 he fun h' hk => ⟨rfl, I.turnedL (t' := s.toks) (ch := [z, TI, TO, i1, i2]) (fun c o hb q =>
      hk c o (fun q' => hb (by simp [q'])) (fun q' => hb (by simp [q'])) (fun q' => hb (by simp [q'])) (fun q' => hb (by simp [q'])) q) hf⟩
  self := fun A i s Q E st h => wpAny_pyIter_zip st.1 h
def iZipM (K : PySem.W.Frag) (ta : TA) : TI := fun σ H R => ta σ H fun vs H1 => ∃ a b xs ys, vs = [.ref a, .ref b] ∧ SqL K H1 a xs ∧ SqT K H1 b ys ∧ R (ItzM K a b) H1
theorem pi_zipM {X : Cx} {e e2 : Expr} {ta : TA} {p pos tpos : Pos} {elts : List Expr} {kk : Nat} (hg : Gl X "zip") (hm : X.mg "zip" = none) (ha : PA X [e, e2] ta)
    (hs : starEach [e, e2] X.env = (false, eval e X.env) :: starEach [e2] X.env := by rfl) (hpl : (backTo pos (starEach [e2] X.env)).any (·.1) = false := by rfl) :
    PI X (.Tuple elts kk tpos) (.Call (.Name "zip" p) [e, e2] [] pos) (iZipM X.K ta) := by
  refine ⟨fun pins s σ H R I h => ?_⟩
  refine Call_ (ld_blt I hg hm PyProof.Rows.boot_zip (PyProof.Rows.callWith_type1 (thn (ha.run pos pins s σ H _ I h) fun us s1 ⟨vs, H1, I1, r1, q1⟩ => ?_) hs hpl))
  obtain ⟨a, b, xs, ys, ex, q1⟩ := q1
  subst ex
  cases r1 with
  | cons r rr =>
    cases rr with
    | cons r' rr =>
      cases rr
      cases r
      cases r'
      have fresh5 : ∀ c, c ∈ [s1.heap.objs.size + 4, s1.heap.objs.size + 2, s1.heap.objs.size + 3, s1.heap.objs.size, s1.heap.objs.size + 1] → FpOk X pins H1 c := fun c hcm => by
        have e' : c = s1.heap.objs.size + 4 ∨ c = s1.heap.objs.size + 2 ∨ c = s1.heap.objs.size + 3 ∨ c = s1.heap.objs.size ∨ c = s1.heap.objs.size + 1 := by simpa using hcm
        have hle : s1.heap.objs.size ≤ c := by
          rcases e' with z | z | z | z | z
          · rw [z]; exact Nat.le_add_right _ _
          · rw [z]; exact Nat.le_add_right _ _
          · rw [z]; exact Nat.le_add_right _ _
          · rw [z]; exact Nat.le_refl _
          · rw [z]; exact Nat.le_add_right _ _
        exact I1.fpOk hle (I1.hok.fresh hle)
      obtain ⟨hqx, hqy, q⟩ := q1
      obtain ⟨its, rv, p1, _⟩ := I1.list hqx
      obtain ⟨its2, rv2, p2, _⟩ := I1.tuple hqy
      obtain ⟨o2, ho2, _⟩ := id p2
      refine call_zipM (show s1.heap.IsList a its.toArray from p1.isList) (show s1.heap.IsTuple b its2.toArray from p2) fun h' hz hTI hTO h1 h2 hsz hk => wpAny_pyIter_zip hz ?_
      have I2 : Inv X pins σ H1 { s1 with heap := h' } := I1.kept (t' := s1.toks) hk
      exact ⟨s1.heap.objs.size + 4, [s1.heap.objs.size + 4, s1.heap.objs.size + 2, s1.heap.objs.size + 3, s1.heap.objs.size, s1.heap.objs.size + 1], _, _, H1, rfl, I2, turn_zipM (PySem.W.ktu_apart s1.heap.objs.size a b p1.lt (Heap.lt_size ho2)), ⟨hz, hTI, ⟨_, _, hTO⟩, h1, h2⟩, fresh5, q⟩
section
variable {L : Lk} {G : Gm} {n : Nat} {X : Cx} {A0 : AH} {N0 : Addr → Prop} {H0 : Hp} {a b : Expr} {ia ib : IE} {p pos : Pos}
theorem dwk_zipM {q q' : Addr} {vs ws : List V} {ds es : List D} (ra0 : RA L A0 N0 H0) (h : RdL A0 N0 H0 q vs) (r : RVs L.K A0 N0 H0 ds vs) (h' : SqT L.K H0 q' ws) (r' : RVs L.K A0 N0 H0 es ws) : DWk L N0 (ItzM L.K q q') (List.zipWith (fun x y => .tup [x, y]) ds es) (fun _ => True) A0 H0 := by
  have st : ∀ {A N H}, Stay A0 N0 H0 A N H → SqL L.K H q vs := fun x => .inl (x.2.1 _ _ h).1
  have st' : ∀ {A N H}, Stay A0 N0 H0 A N H → SqT L.K H q' ws := fun x => DL.SqT.stay x h'
  have hl : (List.zipWith (fun x y => D.tup [x, y]) ds es).length = min vs.length ws.length := by rw [List.length_zipWith, r.length, r'.length]
  refine ⟨fun i A N H hi ra x _ => ?_, fun A N H ra x _ => ?_, fun i y A N H H' hi ra x _ hy => ?_⟩
  · rw [hl] at hi
    have h1 : i < vs.length := by omega
    have h2 : i < ws.length := by omega
    exact ⟨vs, ws, vs[i], ws[i], st x, st' x, by simp [h1], by simp [h2]⟩
  · exact ⟨vs, ws, st x, st' x, by rw [hl]; omega⟩
  · obtain ⟨T, y1, y2, rfl, nT, rfl, f1, f2⟩ := hy
    obtain ⟨d1, e1, e2⟩ := RVs.gets r (f1 vs (st x))
    obtain ⟨d2, e3, e4⟩ := RVs.gets r' (f2 ws (st' x))
    have s1 := x
    have s2 : Stay A N H A N (upd H T (.tup [y1, y2])) := (Ext.tupNew ra nT).stay ra
    refine ⟨.tup [d1, d2], ?_, rv_tup.mpr ⟨T, _, rfl, SqT.of upd_same, .cons (RV.stay s2 _ _ (RV.stay s1 _ _ e2)) (.cons (RV.stay s2 _ _ (RV.stay s1 _ _ e4)) .nil)⟩, ra.tupNew nT, Ext.tupNew ra nT⟩
    rw [List.getElem?_zipWith, e1, e3]
theorem di_zipm {elts : List Expr} {kk : Nat} {tpos : Pos} (hg : Gl X "zip") (hm : X.mg "zip" = none) (ha : DE L G n X a ia) (hb : DE L G n X b ib) (hs : starEach [a, b] X.env = (false, eval a X.env) :: starEach [b] X.env) (hs2 : starEach [b] X.env = (false, eval b X.env) :: starEach [] X.env)
    (hpl : (backTo pos (starEach [b] X.env)).any (·.1) = false) : DI L G n X (.Tuple elts kk tpos) (.Call (.Name "zip" p) [a, b] [] pos) .zipm [ia, ib] := fun C W tk =>
  pi_imp (pi_zipM hg hm (pa_cons (ha C W tk) (pa_cons (hb C W tk) pa_nil hs2) hs) hs hpl) fun σ H R ⟨N, δ, A, Rd, Ed, rs, ra, h, hq, hx⟩ =>
    LE.use rs ra h (fun d A1 v1 H1 rv1 ra1 ex1 rs1 q1 => LE.use rs1 ra1 q1 (fun d2 A2 v2 H2 rv2 ra2 ex2 rs2 q2 => by
      have rv1' := RV.stay (ex2.stay ra1) _ _ rv1
      cases d with
      | fl xs =>
        cases d2 with
        | tup ys =>
          obtain ⟨q, vs, rfl, h1, h2⟩ := rv_fl.mp rv1'
          obtain ⟨q', ws, rfl, h3, h4⟩ := rv_tup.mp rv2
          rw [C.K]
          exact ⟨q, q', vs, ws, rfl, .inl h1.1, h3, hq _ _ A2 H2 _ (dwk_zipM ra2 h1 h2 h3 h4) ra2 (ex1.trans ex2) q2⟩
        | _ => exact (show False from q2).elim
      | _ => cases d2 <;> exact (show False from q2).elim) (XW.ext hx ex1)) hx
theorem izm_ {elts : List Expr} {kk : Nat} {tpos : Pos} (hm : X.mg "zip" = none) (ha : DE L G n X a ia) (hb : DE L G n X b ib) (hg : Gl X "zip" := by rfl) (hs : starEach [a, b] X.env = (false, eval a X.env) :: starEach [b] X.env := by rfl) (hs2 : starEach [b] X.env = (false, eval b X.env) :: starEach [] X.env := by rfl)
    (hpl : (backTo pos (starEach [b] X.env)).any (·.1) = false := by rfl) : DI L G n X (.Tuple elts kk tpos) (.Call (.Name "zip" p) [a, b] [] pos) .zipm [ia, ib] := di_zipm hg hm ha hb hs hs2 hpl
end
end DL

set_option Elab.async false
set_option linter.all false
set_option maxRecDepth 100000
set_option maxHeartbeats 2000000
/-! a comprehension that an exception may leave -/
namespace DL
open PySem PySem.Spec PyProof.Rows L2

/-! ### noted by this frame, in flight elsewhere -/
section
variable {M : Model} {A : Around} {E : Value → Shared → Prop} {s : Shared} {Z : Obj → Prop} {B : Heap} {env : Env} {outer l : List Env} {L L' a C : Addr}
theorem look_otherZ {fl : Value} {Q : Unit → Shared → Prop} (hZ : HandSPX.Steady Z) (hfr : A.frames = some (env :: outer)) (hf : env.frame = some L) (kB : B.StaysIn s.heap) (nB : B.get? a = none) (ff : s.heap.FunFrames B (env :: outer))
    (tr : HandSPX.TracedZ s.heap B a Z fl) (ne : (fl == rawInt L) = false)
    (hQ : ∀ h', HandSPX.HeldZ B (env :: outer) a Z L h' → s.heap.UpToSlots h' → Q () { s with heap := h' }) : wpAny M A (noteFrame (.ref a) env) Q E s := by
  obtain ⟨oa, vs, T, oT, ts, ha, hz, hd, e1, nT, Tne, hT, dT, e3⟩ := tr
  unfold noteFrame
  simp only [hf]
  refine wpAny_bind (wpAny_field ha hd e1 ?_)
  rw [if_pos (show (Value.ref T != Value.none) = true from by simp)]
  refine wpAny_bind (wpAny_field hT dT e3 ?_)
  rw [if_neg (show ¬ ((fl == rawInt L) = true) from by rw [ne]; exact Bool.false_ne_true)]
  refine wpAny_bind (wpAny_setField hT dT (Array.getElem?_eq_some_iff.mp e3).1 ?_)
  have oth : ∀ b, b ≠ T → (s.heap.update T (Obj.mapFields (·.setIfInBounds 3 Value.none))).get? b = s.heap.get? b := fun b hb => Heap.get?_update_other _ _ (Ne.symm hb)
  have norec : ∀ b o, s.heap.get? b = some o → (∀ vs, o.data ≠ .fields vs) → b ≠ T := fun b o hb hnf q => by
    rw [q, hT] at hb; cases hb; exact hnf ts dT
  refine HandSPX.wpAny_entryZ hZ hfr (ff.of_keeps fun b o hb hnf => ⟨o, (oth b (norec b o hb hnf)).trans hb, rfl⟩) hf ((oth a (Ne.symm Tne)).trans ha)
    (fun b o hbo => (oth b fun q => by rw [q, nT] at hbo; cases hbo).trans (kB b o hbo)) nB hd (Array.getElem?_eq_some_iff.mp e1).1 hz fun h' hN => ?_
  obtain ⟨x1, x2, x3, x4⟩ := hN
  exact hQ h' ⟨x1, nB, x2, x3⟩ fun b o hb hnf => x4 b o ((oth b (norec b o hb hnf)).trans hb) hnf
/-- the own frame notes what is in the air of a block -/
theorem sky_note {Q : Unit → Shared → Prop} (hZ : HandSPX.Steady Z) (hfr : A.frames = some (env :: outer)) (hf : env.frame = some L) (ne : L' ≠ L) (x : Sky B (env :: outer) a Z L' s.heap)
    (hQ : ∀ h', HandSPX.HeldZ B (env :: outer) a Z L h' → s.heap.UpToSlots h' → Q () { s with heap := h' }) : wpAny M A (noteFrame (.ref a) env) Q E s := by
  rcases x with ⟨hB, hn, hl, oe, vs, he, hz, hd, h1⟩ | fl | ⟨h1, h2, h3, h4⟩
  · exact HandSPX.look_newZ hZ hfr hl hf he hB hn hd h1 hz hQ
  · exact HandSPX.looks_onZ hZ hfr hf fl hQ
  · refine look_otherZ hZ hfr hf h1 h2 h3 h4 ?_ hQ
    have z : ¬ (rawInt L' = rawInt L) := fun z => ne (by
      unfold rawInt at z
      injection z with z _
      exact Int.ofNat.inj z)
    exact beq_eq_false_iff_ne.mpr z
theorem ff_hide {h h2 : Heap} (hs : Heap.SameBut C h h2) : ∀ {l : List Env}, h.FunFrames B l → (∀ L ∈ frs l, L ≠ C) → h2.FunFrames (PySem.W.hideAll B [C]) l
  | [], _, _ => trivial
  | env :: l, f, nC => by
    obtain ⟨hk, ⟨L, o, hf, hn, ho, hd⟩, hr⟩ := f
    have z : L ≠ C := nC L (List.mem_filterMap.mpr ⟨env, List.mem_cons_self, hf⟩)
    refine ⟨hk, ⟨L, o, hf, ?_, (hs.2 L z).trans ho, hd⟩, ff_hide hs hr fun b hb => ?_⟩
    · cases q : (PySem.W.hideAll B [C]).get? L with
      | none => rfl
      | some o' => rw [PySem.W.of_hideAll _ q] at hn; cases hn
    · obtain ⟨e, he, q⟩ := List.mem_filterMap.mp hb
      exact nC b (List.mem_filterMap.mpr ⟨e, List.mem_cons_of_mem _ he, q⟩)
theorem hide1 {h : Heap} {b : Addr} {o : Obj} (e : (PySem.W.hideAll h [C]).get? b = some o) : b ≠ C ∧ h.get? b = some o := by
  refine ⟨fun z => ?_, PySem.W.of_hideAll _ e⟩
  rw [z, PySem.W.hideAll_none [C] (by simp)] at e
  cases e
theorem hide2 {h : Heap} {b : Addr} {o : Obj} (n : b ≠ C) (e : h.get? b = some o) : (PySem.W.hideAll h [C]).get? b = some o := PySem.W.hideAll_get _ e (by simpa using n)
/-- the block's own dict changes -/
theorem held_hide {h h2 : Heap} {oC : Obj} (hs : Heap.SameBut C h h2) (hC : h.get? C = some oC) (dC : ∀ vs, oC.data ≠ .fields vs) (nf : ∀ L ∈ frs l, L ≠ C) (x : HandSPX.HeldZ B l a Z L h) : HandSPX.HeldZ (PySem.W.hideAll B [C]) l a Z L h2 := by
  obtain ⟨h1, h2', h3, oa, vs, T, oT, ts, ha, hz, hd, e1, nT, Tne, hT, dT, e3⟩ := x
  have za : a ≠ C := fun z => by subst z; rw [ha] at hC; cases hC; exact dC _ hd
  have zT : T ≠ C := fun z => by subst z; rw [hT] at hC; cases hC; exact dC _ dT
  have nn : ∀ {b}, B.get? b = none → (PySem.W.hideAll B [C]).get? b = none := fun {b} hn => by
    cases q : (PySem.W.hideAll B [C]).get? b with
    | none => rfl
    | some o' => rw [PySem.W.of_hideAll _ q] at hn; cases hn
  refine ⟨fun b o e => ?_, nn h2', ff_hide hs h3 nf, oa, vs, T, oT, ts, (hs.2 a za).trans ha, hz, hd, e1, nn nT, Tne, (hs.2 T zT).trans hT, dT, e3⟩
  obtain ⟨z, e⟩ := hide1 e
  exact (hs.2 b z).trans (h1 b o e)
end

/-! ### a comprehension, its end by exception told with the block's frame -/
def compPostX (M : Model) (A : Around) (E : Value → Shared → Prop) (Q : Value → Shared → Prop) (acc : Value) (cenv : Env) (r : Result) (s' : Shared) : Prop :=
  match r with
  | .ok _ => ∃ m, s'.heap.Ns cenv.locals m ∧ ∀ h', Heap.SameBut cenv.locals s'.heap h' → Q acc { s' with heap := h' }
  | .error x => ∃ m, s'.heap.Ns cenv.locals m ∧ ∀ h', Heap.SameBut cenv.locals s'.heap h' → wpAny M A (PySem.passOn "comprehension.variables-let-go" x cenv : Sem Value) (fun _ _ => False) E { s' with heap := h' }
section
variable {M : Model} {A : Around} {E : Value → Shared → Prop} {s : Shared} {env : Env}
theorem comprehensionX {e : Expr} {scope : Scope} {pos : Pos} {newAcc first : Sem Value} {g : Comprehension} {gs : List Comprehension} {cl : List (Str × Addr)} {Q : Value → Shared → Prop}
    (hcl : clausesOf e = g :: gs) (hs : ∀ x, foldedSetIterable g.iter env x = pure x) (hclos : closureFor scope env = pure cl)
    (hkind : scope.kind = .function) (hnames : ∀ x ∈ scope.names, x.2 = .local → scope.names.lookup x.1 = some .local)
    (h : wpAny M A first (fun x s₁ => wpAny M A (pyIter x) (fun it s₂ => wpAny M A newAcc (fun acc s₃ =>
      wpAny M A (newFunctionEnv scope env.globals cl [] env.qual none .none (some env)) (fun ce s₄ =>
        codeAny M A (.compStart e 0 it acc { ce with scope := relabel scope env }) (compPostX M A E Q acc { ce with scope := relabel scope env }) s₄) E s₃) E s₂) E s₁) E s) :
    wpAny M A (comprehension e scope env pos newAcc false first none) Q E s := by
  unfold comprehension
  rw [hclos, hcl]
  refine wpAny_bind (wpAny_mono h (fun x s₁ g₁ => wpAny_bind (wpAny_standAt (wpAny_bind (wpAny_of_eq (hs x) (wpAny_bind (wpAny_holding (wpAny_mono g₁ (fun it s₂ g₂ =>
    wpAny_standIf (wpAny_bind (wpAny_mono g₂ (fun acc s₃ g₃ => wpAny_bind (wpAny_pure (wpAny_bind (wpAny_mono g₃ (fun ce s₄ g₄ => ?_) fun _ _ q => q)))) fun _ _ q => q)))
      fun _ _ q => q))))))) fun _ _ q => q)
  dsimp only
  have hv : ∀ x ∈ (scope.names.filter fun x => (x.2 == .local || x.2 == .cell) && x.1 != (".0" : Str)).reverse, x.2 = .local →
      Env.kindOf { ce with scope := relabel scope env } x.1 = some .local := fun x hx hl => lookup_relabel_local (hnames x (List.mem_filter.mp (List.mem_reverse.mp hx)).1 hl)
  refine wpAny_holding (wpAny_bind (wpAny_attempt (wpAny_holding (wpAny_run (codeAny_mono g₄ fun r s' hr => ?_)))))
  cases r with
  | ok f =>
    obtain ⟨m, hn, hr⟩ := hr
    exact wpAny_bind (wpAny_holding (wpAny_comp_letGo (cenv := { ce with scope := relabel scope env }) hkind _ s' m hv hn fun h' m' _ hs' => wpAny_pure (hr h' hs')))
  | error x =>
    obtain ⟨m, hn, hr⟩ := hr
    exact wpAny_bind (wpAny_holding (wpAny_comp_letGo (cenv := { ce with scope := relabel scope env }) hkind _ s' m hv hn fun h' m' _ hs' => wpAny_mono (hr h' hs') (fun _ _ f => f.elim) fun _ _ y => y))
end

/-- the block's context, an exception on its way out -/
abbrev xeB (X : Cx) (Q : Value → Shared → Prop) (acc : Value) (ce : Env) : Value → Shared → Prop := notedBy (model X.prog X.w) X.A ce fun e s' => compPostX (model X.prog X.w) X.A X.xe Q acc ce (.error e) s'
abbrev blkX (X : Cx) (s : Shared) (H : Hp) (scope : Scope) (ce : Env) (fp : List Addr) (xe : Value → Shared → Prop) : Cx := { X with s_0 := s, H_0 := H, env := ce, outer := X.stack, ex := fp, fn := fun x => scope.names.lookup x == some .cell, pn := [], xe := xe }
section
variable {X : Cx}
/-- what is in the block's air is taken -/
theorem takes_blk {pins : List (Addr × Obj)} {σ : L2.St} {H : Hp} {s3 : Shared} {scope : Scope} {cl : List (Str × Addr)} {fp : List Addr} {W : WX} {Q : Value → Shared → Prop} {acc : Value} (hs : X.stack = X.env :: X.outer) (hf : X.env.frame = some X.env.locals)
    (I3 : L2.Inv X pins σ H s3) (ffp : ∀ b ∈ fp, FpOk X pins H b) (tk : Takes X W) :
    Takes (blkX X s3 H scope (compEnvC scope cl s3.heap.objs.size X.env) fp (xeB X Q acc (compEnvC scope cl s3.heap.objs.size X.env))) (fun cls d _ H' => W cls d σ H') := by
  rintro u s' ⟨a, B, sI, pins', σ', H', cls, d, rfl, I6, nb, up, sky, na, os, ag, w⟩
  have hfr : X.A.frames = some (X.env :: X.outer) := by rw [I3.ok.frames, hs]
  have neL : (compEnvC scope cl s3.heap.objs.size X.env).locals ≠ X.env.locals := fun z => by
    have z : s3.heap.objs.size = X.env.locals := z
    have := I3.lt
    rw [z] at this
    exact Nat.lt_irrefl _ this
  have sky' : Sky B (X.env :: X.outer) a (Zc cls d) (compEnvC scope cl s3.heap.objs.size X.env).locals s'.heap := by rw [← hs]; exact sky
  show wpAny (model X.prog X.w) X.A (noteFrame (.ref a) X.env) _ _ _
  refine sky_note Zc.steady hfr hf neL sky' fun h1 held1 up1 => ?_
  -- the block's dict
  have nC : H' s3.heap.objs.size = none := I6.free
  have I7 : L2.Inv X pins σ H' sI := I3.call' (ch := fp) I6.os I6.base I6.hok I6.bare fun b hb => ⟨(ffp b hb).2.2.2.1, (ffp b hb).2.1, (ffp b hb).2.2.2.2.1, (ffp b hb).2.2.2.2.2⟩
  have fC : FpOk X pins H' s3.heap.objs.size := I3.fpOk (Nat.le_refl _) nC
  obtain ⟨m, ⟨oC, es, ep, hoC, hdC, sk, nf⟩, _⟩ := I6.loc
  have hoC : sI.heap.get? s3.heap.objs.size = some oC := hoC
  have dC : ∀ vs, oC.data ≠ .fields vs := fun vs z => by rw [hdC] at z; cases z
  obtain ⟨sl1, hC1⟩ := up _ _ hoC dC
  obtain ⟨sl2, hC2⟩ := up1 _ _ hC1 dC
  have nfr : ∀ L ∈ frs (X.env :: X.outer), L ≠ s3.heap.objs.size := fun L hL z => by
    rw [← hs] at hL
    rcases List.mem_cons.mp (I3.stkSub L hL) with q | q
    · rw [z] at q; exact neL q
    · rw [z] at q; exact fC.2.2.1 q
  refine ⟨m, ⟨_, es, ep, hC2, hdC, sk, nf⟩, fun h2 sb => ?_⟩
  have held2 : HandSPX.HeldZ (PySem.W.hideAll B [s3.heap.objs.size]) (X.env :: X.outer) a (Zc cls d) X.env.locals h2 := held_hide sb hC2 dC nfr held1
  obtain ⟨k1, k2, k3, oe, vs, T, oT, ts', he, hz, hd, e1, hr⟩ := id held2
  unfold PySem.passOn
  refine wpAny_bind (wpAny_field he hd e1 ?_)
  rw [if_neg (show ¬ ((Value.ref T == Value.none) = true) from by simp)]
  have fin : wpAny (model X.prog X.w) X.A (setFlight (.ref a) X.env.frame) (fun _ s4 => wpAny (model X.prog X.w) X.A (throw (.ref a) : Sem Value) (fun _ _ => False) X.xe s4) X.xe { s' with heap := h2 } := by
    rw [hf]
    refine HandSPX.setFlight_onZ held2 fun h4 hh4 up4 => wpAny_throw (tk _ _ ?_)
    have kp : ∀ b o, b ≠ s3.heap.objs.size → sI.heap.get? b = some o → (PySem.W.hideAll sI.heap [s3.heap.objs.size]).get? b = some o := fun b o z e => hide2 z e
    have I8 := I7.turned (h' := PySem.W.hideAll sI.heap [s3.heap.objs.size]) (t' := sI.toks) kp fC.1 fC.2.1 fC.2.2.2.1 fC.2.2.2.2.1 fC.2.2.2.2.2
    refine ⟨a, PySem.W.hideAll B [s3.heap.objs.size], _, pins, σ, H', cls, d, rfl, I8, fun b o e hb => ?_, fun b o e hnf => ?_, .inr (.inr (by rw [hs]; exact hh4)), na, os, ag, w⟩
    · obtain ⟨z, e⟩ := hide1 e
      exact hide2 z (nb b o e hb)
    · obtain ⟨z, e⟩ := hide1 e
      obtain ⟨t1, f1⟩ := up b o e hnf
      obtain ⟨t2, f2⟩ := up1 b _ f1 hnf
      have f3 := (sb.2 b z).trans f2
      obtain ⟨t4, f4⟩ := up4 b _ f3 hnf
      exact ⟨t4, f4⟩
  first
    | exact wpAny_bind (wpAny_pure (wpAny_bind fin))
    | exact wpAny_bind fin
theorem pe_lcX {W : WX} {elt tg iter : Expr} {ifs : List Expr} {scope : Scope} {own : List (Str × Nat)} {pos : Pos} {wi : TI} {g : TG} {tt : WX → TT} {te : WX → TE} (hst : X.stack = X.env :: X.outer) (hfm : X.env.frame = some X.env.locals) (tk : Takes X W) (hc : X.calm = true) (hN : X.N.Nodup)
    (hi : PI X tg iter wi) (ok : BlkOk X.N X.env.scope scope own)
    (hg : ∀ (s : Shared) (H : Hp) (ce : Env) (fp : List Addr) (xe : Value → Shared → Prop) (C : Addr) (cl : List (Str × Addr)), ce = compEnvC scope cl C X.env → PG (blkX X s H scope ce fp xe) tg g)
    (ht : ∀ (s : Shared) (H : Hp) (ce : Env) (fp : List Addr) (xe : Value → Shared → Prop) (C : Addr) (cl : List (Str × Addr)) (Wb : WX), ce = compEnvC scope cl C X.env → Takes (blkX X s H scope ce fp xe) Wb → PTs (blkX X s H scope ce fp xe) ifs (tt Wb))
    (he : ∀ (s : Shared) (H : Hp) (ce : Env) (fp : List Addr) (xe : Value → Shared → Prop) (C : Addr) (cl : List (Str × Addr)) (Wb : WX), ce = compEnvC scope cl C X.env → Takes (blkX X s H scope ce fp xe) Wb → PE (blkX X s H scope ce fp xe) elt (te Wb)) (hs : ∀ x, foldedSetIterable iter X.env x = pure x) :
    PE X (.ListComp elt [⟨tg, iter, ifs, 0⟩] scope pos) (fun σ H Q => tLc wi g (tt fun cls d _ H' => W cls d σ H') (te fun cls d _ H' => W cls d σ H') (own.map (·.2)) σ H Q) := by
  refine ⟨fun pins s σ H Q I h => ?_⟩
  rw [eval_ListComp]
  have hfree : ∀ y ∈ scope.names, y.2 = .free → ∃ c, X.env.cells.lookup y.1 = some c := fun y hy e => by
    rcases ok.free y hy e with k | k
    · exact I.ok.has _ (.inl k)
    · exact I.ok.has _ (.inr k)
  refine comprehensionX rfl hs (closure_ok hfree) ok.kind (fun y hy e => by rw [ok.uniq y hy, e])
    (thn (hi.run pins s σ H _ I h) fun xv s1 hx => thn hx fun itv s2 h2 => ?_)
  obtain ⟨it, fp, tn, J, H2, e, I2, T, st2, f2, q⟩ := h2
  subst e
  refine wpAny_newObj_type (newEnv_comp ?_) (by show 0 ≤ sizeLine; decide)
  generalize hD : s2.heap.objs.size = D
  have hDn : H2 D = none := I2.hok.fresh (Nat.le_of_eq hD)
  obtain ⟨V, ⟨m0, w0⟩, turn⟩ := q D hDn
  -- the new list
  generalize hs3 : ({ s2 with heap := s2.heap.push { cls := .type "list", data := .seq ([] : List Value).toArray } } : Shared) = s3
  have I3 : L2.Inv X pins σ (upd H2 D (.lst [])) s3 := by
    rw [← hs3]
    refine I2.laid (t' := s2.toks) (fun b o e => Heap.get?_push_of_some _ e) (Nat.le_of_eq hD) ⟨Nat.zero_le _, [], 0, .nil, ?_⟩
    rw [← hD]
    exact Heap.get?_push_size _ rfl
  have h3 : s3.heap = s2.heap.push { cls := .type "list", data := .seq ([] : List Value).toArray } := by rw [← hs3]
  have sz : ∀ b ∈ fp, b < s2.heap.objs.size := fun b hb => by
    obtain ⟨o, e, _⟩ := T.obj _ _ st2 b hb
    exact Heap.lt_size e
  have f3 : ∀ b ∈ fp, FpOk X pins (upd H2 D (.lst [])) b ∧ b < s3.heap.objs.size := fun b hb => by
    have hlt := sz b hb
    refine ⟨⟨?_, (f2 b hb).2⟩, by rw [h3, Heap.size_push]; exact Nat.lt_succ_of_lt hlt⟩
    rw [upd_ne (by rw [← hD]; exact Nat.ne_of_lt hlt)]
    exact (f2 b hb).1
  have st3 : tn 0 s3.heap := T.keep _ _ _ st2 fun b _ o e => by rw [h3]; exact Heap.get?_push_of_some _ e
  have I4 := block_start I3 ok hN f3
  show codeAny _ _ (.compStart (.ListComp elt [⟨tg, iter, ifs, 0⟩] scope pos) 0 (.ref it) (.ref D) (compEnvC scope (cellsFrom (s3.heap.objs.size + 1) scope.names (cloFrom X.env.cells scope.names [])) s3.heap.objs.size X.env)) (compPostX (model X.prog X.w) X.A X.xe (EP X pins σ Q) (.ref D) (compEnvC scope (cellsFrom (s3.heap.objs.size + 1) scope.names (cloFrom X.env.cells scope.names [])) s3.heap.objs.size X.env)) { s3 with heap := pushCells (s3.heap.push { cls := .type "dict", data := .dict #[] }) scope.names }
  have tkB := takes_blk (scope := scope) (cl := cellsFrom (s3.heap.objs.size + 1) scope.names (cloFrom X.env.cells scope.names [])) (Q := EP X pins σ Q) (acc := .ref D) hst hfm I3 (fun b hb => (f3 b hb).1) tk
  have nfp : ∀ b ∈ fp, (upd H2 D (.lst [])) b = none := fun b hb => (f3 b hb).1.1
  generalize hcl : cellsFrom (s3.heap.objs.size + 1) scope.names (cloFrom X.env.cells scope.names []) = cl at I4 tkB ⊢
  generalize hce : compEnvC scope cl s3.heap.objs.size X.env = ce at I4 tkB ⊢
  have cL : ce.locals = s3.heap.objs.size := by subst hce; rfl
  generalize hH3 : upd H2 D (.lst []) = H3 at I3 I4 w0 nfp f3 tkB
  generalize hxe : xeB X (EP X pins σ Q) (.ref D) ce = xe at tkB
  have pg := hg s3 H3 ce fp xe s3.heap.objs.size cl hce.symm
  have pt := ht s3 H3 ce fp xe s3.heap.objs.size cl _ hce.symm tkB
  have pe := he s3 H3 ce fp xe s3.heap.objs.size cl _ hce.symm tkB
  have I4 : L2.Inv (blkX X s3 H3 scope ce fp xe) [] (wipe σ (own.map (·.2))) H3 { s3 with heap := pushCells (s3.heap.push { cls := .type "dict", data := .dict #[] }) scope.names } := I4.wish xe
  generalize hs4 : ({ s3 with heap := pushCells (s3.heap.push { cls := .type "dict", data := .dict #[] }) scope.names } : Shared) = s4 at I4 ⊢
  have st4 : tn 0 s4.heap := T.keep _ _ _ st3 fun b _ o e => by rw [← hs4]; exact pushCells_keeps _ _ _ _ (Heap.get?_push_of_some _ e)
  have stat : ∀ {σ' : L2.St} {H' : Hp} {s' : Shared}, L2.Inv (blkX X s3 H3 scope ce fp xe) [] σ' H' s' → (∀ b ∈ fp, H' b = none) → ∀ b ∈ fp, FpOk (blkX X s3 H3 scope ce fp xe) [] H' b := fun {σ' H' s'} I' hn b hb =>
    ⟨hn b hb, (I'.ok.exf b hb).1, I'.ok.exfs b hb, .inl hb, fun x c e => (I'.ok.exf b hb).2 x c e, fun p hp => absurd (show p ∈ ([] : List (Addr × Obj)) ++ [] from hp) (by simp)⟩
  have loop : codeAny (model X.prog X.w) X.A (.compLoop (.ListComp elt [⟨tg, iter, ifs, 0⟩] scope pos) 0 (.ref it) (.ref D) ce) (compPostX (model X.prog X.w) X.A X.xe (EP X pins σ Q) (.ref D) ce) s4 := by
    refine compLoop_any (fun n s' => ∃ i H', L2.Inv (blkX X s3 H3 scope ce fp xe) [] (wipe σ (own.map (·.2))) H' s' ∧ tn i s'.heap ∧ (∀ b ∈ fp, H' b = none) ∧ V i n H') ?_ m0 ⟨0, H3, I4, st4, nfp, w0⟩
    rintro n s5 ⟨i, H5, I5, st5, n5, w5⟩
    show wpAny (model X.prog X.w) X.A _ _ (xeB X (EP X pins σ Q) (.ref D) ce) s5
    have xeq : (notedBy (model X.prog X.w) X.A ce fun e s' => compPostX (model X.prog X.w) X.A X.xe (EP X pins σ Q) (.ref D) ce (.error e) s') = xe := hxe
    rw [hxe]
    simp only [xeq]
    rcases turn i n H5 w5 with ⟨stop, qq⟩ | ⟨go, Nx, hNx, step⟩
    · have td := T.done (blkX X s3 H3 scope ce fp xe) rfl rfl rfl hc i [] s5 _ H5 (fun _ _ => False) I5 (stat I5 n5) st5 stop
      refine thnF td fun r s6 ⟨hr, I6⟩ => ?_
      subst hr
      -- back in the def's context
      have I7 : L2.Inv X pins σ H5 s6 := I3.call' (ch := fp) I6.os I6.base I6.hok I6.bare fun b hb => ⟨(f3 b hb).1.2.2.2.1, (f3 b hb).1.2.1, (f3 b hb).1.2.2.2.2.1, (f3 b hb).1.2.2.2.2.2⟩
      have nC : H5 s3.heap.objs.size = none := by
        have z : H5 ce.locals = none := I6.free
        rw [cL] at z
        exact z
      obtain ⟨m, hn, _⟩ := I6.loc
      have hn : s6.heap.Ns ce.locals m := hn
      refine ⟨m, hn, fun h'' sb => ?_⟩
      rw [cL] at sb
      obtain ⟨f0, f1, f2, f3, f4, f5⟩ := I3.fpOk (Nat.le_refl _) nC
      exact ⟨.ref D, H5, I7.turned (t' := s6.toks) (fun b o hb e => (sb.2 b hb).trans e) f0 f1 f3 f4 f5, rfl, qq⟩
    · have ti := T.item (blkX X s3 H3 scope ce fp xe) rfl rfl rfl hc i [] s5 _ H5 (fun _ _ => False) I5 (stat I5 n5) st5 go
      refine thnF ti fun r s6 ⟨u, hr, h6⟩ => ?_
      subst hr
      refine thnF h6 fun _ s7 ⟨x, H7, I7, r7, y7, st7, n7⟩ => ?_
      have I7' := I7.pinned (stat I7 n7) (T.obj _ _ st7)
      refine thn (pg.run _ s7 _ H7 x u _ I7' r7 (step x H7 y7)) fun _ s8 ⟨σ8, H8, I8, hw8, q8⟩ => ?_
      refine thn (pt.run _ s8 σ8 H8 _ I8 q8) fun b s9 ⟨H9, I9, q9⟩ => ?_
      -- the turn's end
      have fin : ∀ {s' : Shared} {H' : Hp}, L2.Inv (blkX X s3 H3 scope ce fp xe) ([] ++ pinsAt fp s7.heap) σ8 H' s' → Nx H' → ∃ m, m < n ∧ ∃ i H', L2.Inv (blkX X s3 H3 scope ce fp xe) [] (wipe σ (own.map (·.2))) H' s' ∧ tn i s'.heap ∧ (∀ b ∈ fp, H' b = none) ∧ V i m H' := fun {s' H'} I' nx => by
        obtain ⟨m', hm, w'⟩ := hNx H' nx
        have pin' : ∀ b ∈ fp, ∀ o, s7.heap.get? b = some o → s'.heap.get? b = some o ∧ H' b = none := fun b hb o e =>
          let z := I'.pin (b, o) (List.mem_append_right _ (List.mem_append_right _ (mem_pinsAt hb e)))
          ⟨z.1, z.2.1⟩
        have hl : (wipe σ (own.map (·.2))).length = σ8.length := by rw [← hw8, wipe_length]
        refine ⟨m', hm, i + 1, H', (I'.unpinned (pins := [])).weak hl (fun j v e => ?_), T.keep _ _ _ st7 fun b hb o e => (pin' b hb o e).1, fun b hb => ?_, w'⟩
        · rw [← hw8] at e
          exact (wipe_some e).1
        · obtain ⟨o, e, _⟩ := T.obj _ _ st7 b hb
          exact (pin' b hb o e).2
      cases b with
      | false =>
        simp only [Bool.false_eq_true, if_false] at q9 ⊢
        exact fin I9 q9
      | true =>
        simp only [if_true] at q9 ⊢
        refine thn (pe.run _ s9 σ8 H9 _ I9 q9) fun z s10 ⟨yv, H10, I10, r10, acc, hD10, hz10, nx⟩ => ?_
        exact app_ok (X := blkX X s3 H3 scope ce fp xe) I10 hD10 hz10 r10 fun s11 I11 => fin I11 nx
  exact codeAny_compStart_list loop (T.self X.A 0 _ _ _ st4 loop)
end
section
variable {L : Lk} {A : AH} {N : Addr → Prop} {H : Hp} {b : Addr}
theorem Stay.unhide : Stay A (DL.hide N b) H A N H := ⟨fun _ _ _ h => h, fun c xs h => ⟨h.1, h.2.1, fun z => h.2.2 (.inl z)⟩, fun c xs h => ⟨h.1, h.2.1, fun z => h.2.2 (.inl z)⟩⟩
theorem RA.unhide (r : RA L A (DL.hide N b) H) : RA L A N H := ⟨fun c w q => RO.stay .unhide (fun _ q => q) (r c w q), fun c hc => r.hid c (.inl hc)⟩
end
section
variable {L : Lk} {G : Gm} {n : Nat} {X : Cx} {tg iter elt : Expr} {ifs : List Expr} {k : SrcK} {ies : List IE} {it : IT} {ie : IE} {t : Tg}
theorem tlcx_of {W : WX} {wi : TI} {vs : List Nat} {σ : L2.St} {H : Hp} {Q : VK} (hvs : ∀ i ∈ slots t, i ∈ vs) (wE : WE) (wT : WT) (wA : WA)
    (h : LE L W (fun δ A Q E => wA δ A (fun ds A1 => dSrc k ds A1 fun xs g => xs.length ≤ sizeLine ∧ dCompX t g wT wE (wipeD δ vs) xs [] A1 Q E) E) σ H Q) (hw : ∀ R, LI L W k wA σ H R → wi σ H R) :
    tLc wi (LG L t) (LT L (fun c d _ H' => W c d σ H') wT) (LE L (fun c d _ H' => W c d σ H') wE) vs σ H Q := by
  obtain ⟨N, δ, A, Qd, Ed, rs, ra, h, hq, hx⟩ := h
  refine hw _ ⟨N, δ, A, fun xs g A1 => xs.length ≤ sizeLine ∧ dCompX t g wT wE (wipeD δ vs) xs [] A1 Qd Ed, Ed, rs, ra, h, fun xs g A1 H1 J wk ra1 ex1 q1 => ?_, hx⟩
  intro Dn nD
  obtain ⟨hz, q1⟩ := q1
  have nA1 : A1 Dn = none := ra1.non nD
  -- the invariant
  refine ⟨fun i m H' => m = xs.length - i ∧ i ≤ xs.length ∧ ∃ A' acc accV, RA L A' (hide N Dn) H' ∧ Ext A1 H1 A' H' ∧ A' Dn = none ∧ H' Dn = some (.lst accV) ∧ RVs L.K A' (hide N Dn) H' acc accV ∧ acc.length ≤ i ∧ dCompX t g wT wE (wipeD δ vs) (xs.drop i) acc A' Qd Ed, ⟨_, rfl, Nat.zero_le _, A1, [], [], ?_, ?_, nA1, upd_same, .nil, Nat.le_refl _, q1⟩, ?_⟩
  · exact ra1.hide nD
  · exact Ext.tupNew ra1 nD
  · rintro i m H' ⟨rfl, hi, A', acc, accV, ra', ex', nA', hD, rv', hl, hc⟩
    by_cases hlt : i < xs.length
    · rw [List.drop_eq_getElem_cons hlt] at hc
      obtain ⟨gA, hc⟩ : g A' ∧ gAsg t xs[i] (wipeD δ vs) A' (fun δ' => wT δ' A' (fun b A1 => if b = true then wE δ' A1 (fun y A2 => dCompX t g wT wE (wipeD δ vs) (xs.drop (i + 1)) (acc ++ [y]) A2 Qd Ed) Ed else dCompX t g wT wE (wipeD δ vs) (xs.drop (i + 1)) acc A1 Qd Ed) Ed) := hc
      have st0 : Stay A1 N H1 A' (hide N Dn) H' := ⟨fun b w t h => (ex' b w h (ra1.tup' t h)).1, fun b xs h => let q := ex'.rd h.1 h.2.1; ⟨q.1, q.2, fun z => z.elim h.2.2 fun z => by subst z; rcases h.1 with h | ⟨o, h⟩ <;> rw [nD] at h <;> cases h⟩, fun b xs h => let q := ex'.rd h.1 h.2.1; ⟨q.1, q.2, fun z => z.elim h.2.2 fun z => by subst z; rcases h.1 with h | ⟨o, h⟩ <;> rw [nD] at h <;> cases h⟩⟩
      refine .inr ⟨wk.goes i A' _ H' hlt ra' st0 gA, fun H'' => (∃ A' acc accV, RA L A' (hide N Dn) H'' ∧ Ext A1 H1 A' H'' ∧ A' Dn = none ∧ H'' Dn = some (.lst accV) ∧ RVs L.K A' (hide N Dn) H'' acc accV ∧ acc.length ≤ i + 1 ∧ dCompX t g wT wE (wipeD δ vs) (xs.drop (i + 1)) acc A' Qd Ed), fun H'' q => ⟨xs.length - (i + 1), by omega, rfl, hlt, q⟩, fun x H2 hy => ?_⟩
      obtain ⟨d, e1, rx, ra2, ex2⟩ := wk.yields i x A' _ H' H2 hlt ra' st0 gA hy
      rw [List.getElem?_eq_getElem hlt] at e1
      cases e1
      have hD2 := ex2 Dn _ hD nA'
      have rs2 : RS L.K A' (hide N Dn) H2 (wipeD δ vs) (wipe σ vs) := (((rs.wipe vs).stay (ex1.stay ra)).stay st0).stay (ex2.stay ra')
      have rv2 := RVs.stay (ex2.stay ra') _ _ rv'
      refine ⟨_, _, _, A', _, rx, rs2, ra2, hc, fun δ3 σ3 rs3 on3 q3 => ⟨?_, ?_⟩⟩
      · rw [wipe_eq (on3.sub hvs), wipe_wipe]
      · refine LT.use rs3 ra2 q3 (fun b A4 H4 ra4 ex4 rs4 q4 => ?_) (fun x A9 H9 ra9 e9 q9 => hx x A9 H9 ra9.unhide (((ex1.trans ex').trans ex2).trans e9) q9)
        have hD4 := ex4 Dn _ hD2.1 hD2.2
        have rv4 := RVs.stay (ex4.stay ra2) _ _ rv2
        cases b with
        | true =>
          rw [if_pos rfl] at q4 ⊢
          refine LE.use rs4 ra4 q4 (fun y A5 v5 H5 rv5 ra5 ex5 rs5 q5 => ?_) (fun x A9 H9 ra9 e9 q9 => hx x A9 H9 ra9.unhide ((((ex1.trans ex').trans ex2).trans ex4).trans e9) q9)
          have hD5 := ex5 Dn _ hD4.1 hD4.2
          have rv6 := (RVs.stay (ex5.stay ra4) _ _ rv4).snoc rv5
          have no1 : ∀ xs, HO.lst accV ≠ .tup xs := by intro _ z; cases z
          have no2 : ∀ ob y, HO.lst accV ≠ .frz ob y := by intro _ _ z; cases z
          refine ⟨accV, hD5.1, by rw [← rv4.length]; omega, A5, acc ++ [y], accV ++ [v5], ra5.quiet (.inr rfl) hD5.1 no1 no2, ?_, hD5.2, upd_same, RVs.stay (.quiet (.inr rfl) hD5.1 no1 no2) _ _ rv6, ?_, q5⟩
          · intro b o hb nb
            have z : b ≠ Dn := ne_of_none hb nD
            rw [upd_ne z]
            exact ((((ex'.trans ex2).trans ex4).trans ex5) b o hb nb)
          · rw [List.length_append, List.length_singleton]; omega
        | false =>
          rw [if_neg Bool.false_ne_true] at q4 ⊢
          exact ⟨A4, acc, accV, ra4, (ex'.trans ex2).trans ex4, hD4.2, hD4.1, rv4, by omega, q4⟩
    · have e : i = xs.length := by omega
      subst e
      rw [List.drop_length] at hc
      obtain ⟨gA, hc⟩ : g A' ∧ newL A' acc Qd := hc
      have st0 : Stay A1 N H1 A' (hide N Dn) H' := ⟨fun b w t h => (ex' b w h (ra1.tup' t h)).1, fun b xs h => let q := ex'.rd h.1 h.2.1; ⟨q.1, q.2, fun z => z.elim h.2.2 fun z => by subst z; rcases h.1 with h | ⟨o, h⟩ <;> rw [nD] at h <;> cases h⟩, fun b xs h => let q := ex'.rd h.1 h.2.1; ⟨q.1, q.2, fun z => z.elim h.2.2 fun z => by subst z; rcases h.1 with h | ⟨o, h⟩ <;> rw [nD] at h <;> cases h⟩⟩
      have nN : ¬ N Dn := fun z => by obtain ⟨_, w, h⟩ := ra1.hid _ z; rw [nD] at h; cases h
      refine .inl ⟨wk.stops A' _ H' ra' st0 gA, ?_⟩
      refine hq (.ref Dn) (up A' Dn (.lst acc)) (.ref Dn) H' (rv_ref.mpr rfl) (ra'.show nN hD rv') ?_ (hc Dn nA')
      intro b o hb nb
      obtain ⟨h1, h2⟩ := (ex1.trans ex') b o hb nb
      have z : b ≠ Dn := by
        intro z
        subst z
        have h3 := (ex1 b o hb nb).1
        rw [nD] at h3
        cases h3
      rw [up_ne z]
      exact ⟨h1, h2⟩
theorem Cn.blkX (C : Cn L G n X) (s : Shared) (H : Hp) (scope : Scope) (env : Env) (fp : List Addr) (xe : Value → Shared → Prop) : Cn L G n (DL.blkX X s H scope env fp xe) := ⟨C.K, C.calm, C.room, C.nd, C.fns, C.cls⟩
variable {scope : Scope} {pos : Pos}
theorem lcx_ (own : List (Str × Nat)) (hi : DI L G n X tg iter k ies)
    (hg : ∀ (s : Shared) (H : Hp) (C : Addr) (cl : List (Str × Addr)) (fp : List Addr) (xe : Value → Shared → Prop), DG L G n (blkX X s H scope (compEnvC scope cl C X.env) fp xe) tg t)
    (ht : ∀ (s : Shared) (H : Hp) (C : Addr) (cl : List (Str × Addr)) (fp : List Addr) (xe : Value → Shared → Prop), DTs L G n (blkX X s H scope (compEnvC scope cl C X.env) fp xe) ifs it)
    (he : ∀ (s : Shared) (H : Hp) (C : Addr) (cl : List (Str × Addr)) (fp : List Addr) (xe : Value → Shared → Prop), DE L G n (blkX X s H scope (compEnvC scope cl C X.env) fp xe) elt ie)
    (ok : BlkOk X.N X.env.scope scope own) (hst : X.stack = X.env :: X.outer := by rfl) (hfm : X.env.frame = some X.env.locals := by rfl) (hvs : ∀ i ∈ slots t, i ∈ own.map (·.2) := by decide) (hs : ∀ x, foldedSetIterable iter X.env x = pure x := by intro _; rfl) :
    DE L G n X (.ListComp elt [⟨tg, iter, ifs, 0⟩] scope pos) (.compx k ies (own.map (·.2)) t it ie) := fun C W tk =>
  pe_imp (pe_lcX (own := own) (tt := fun Wb => LT L Wb (wpT (callN G n) G it)) (te := fun Wb => LE L Wb (wpE (callN G n) G ie)) hst hfm tk C.calm C.nd (hi C W tk) ok
      (fun s H ce fp xe c cl e => by subst e; exact hg s H c cl fp xe (C.blkX _ _ _ _ _ _)) (fun s H ce fp xe c cl Wb e tb => by subst e; exact ht s H c cl fp xe (C.blkX _ _ _ _ _ _) Wb tb) (fun s H ce fp xe c cl Wb e tb => by subst e; exact he s H c cl fp xe (C.blkX _ _ _ _ _ _) Wb tb) hs)
    fun σ H Q h => tlcx_of hvs (wpE (callN G n) G ie) (wpT (callN G n) G it) (wpEs (callN G n) G ies) (by
      obtain ⟨N, δ, A, Qd, Ed, rs, ra, h, hq, hx⟩ := h
      exact ⟨N, δ, A, Qd, Ed, rs, ra, h, hq, hx⟩) fun R q => q
end
end DL

set_option linter.all false
set_option maxRecDepth 100000
/-! the forms of the defs that stand in several laws -/
namespace IR
open DL PySem
def is_whole : List IS := [(.ret (.andv (.isi .int (.var 0)) (.andv (.notv (.isi .bool (.var 0))) (.chn .le .le (.var 1) (.var 0) (.var 2)))))]
def is_stretch : List IS := [(.iff (.or (.not (.val (.isi .tuple (.var 0)))) (.or (.val (.cmp .ne (.bi .len [(.var 0)]) (.cst (.int 2)))) (.not (.val (.call 1 [(.ix (.var 0) (.cst (.int 0))), (.cst (.int 0)), (.bin .sub (.cst (.int 100)) (.cst (.int 1)))]))))) [(.ret (.cst (.bl false)))] []),
  (.ret (.call 1 [(.ix (.var 0) (.cst (.int 1))), (.bin .add (.ix (.var 0) (.cst (.int 0))) (.cst (.int 1))), (.cst (.int 100))]))]
def is_spread : List IS := [(.iff (.or (.not (.val (.isi .tuple (.var 0)))) (.not (.val (.bi .all [(.comp .seq [(.var 0)] [1] (.nm 1) .yes (.call 2 [(.var 1)]))])))) [(.ret (.cst (.bl false)))] []),
  (.ret (.bi .all [(.comp .zip [(.cut (.var 0) none (some (.neg (.cst (.int 1))))), (.cut (.var 0) (some (.cst (.int 1))) none)] [1, 2] (.tp [(.nm 1), (.nm 2)]) .yes (.cmp .lt (.ix (.var 1) (.cst (.int 1))) (.ix (.var 2) (.cst (.int 0)))))]))]
def spread_of_b1 : List IS := [(.iff (.and (.val (.var 1)) (.val (.cmp .le (.var 2) (.ix (.ix (.var 1) (.neg (.cst (.int 1)))) (.cst (.int 1)))))) [(.sub (.var 1) (.neg (.cst (.int 1))) (.tup [(.ix (.ix (.var 1) (.neg (.cst (.int 1)))) (.cst (.int 0))), (.bi .max2 [(.ix (.ix (.var 1) (.neg (.cst (.int 1)))) (.cst (.int 1))), (.var 3)])]))] [(.expr (.bm .append (.var 1) [(.tup [(.var 2), (.var 3)])]))])]
def spread_of : List IS := [(.set 1 (.lst [])),
  (.for .seq [(.bi .sorted [(.var 0)])] (.tp [(.nm 2), (.nm 3)]) spread_of_b1),
  (.ret (.bi .tuple [(.var 1)]))]
def spread_by : List IS := [(.ret (.call 4 [(.comp .seq [(.var 0)] [1] (.nm 1) .yes (.tup [(.var 1), (.bin .add (.var 1) (.cst (.int 1)))]))]))]
def has : List IS := [(.ret (.bi .any [(.comp .seq [(.var 0)] [2, 3] (.tp [(.nm 2), (.nm 3)]) .yes (.chn .le .lt (.var 2) (.var 1) (.var 3)))]))]
def size : List IS := [(.ret (.bi .sum [(.comp .seq [(.var 0)] [1, 2] (.tp [(.nm 1), (.nm 2)]) .yes (.bin .sub (.var 2) (.var 1)))]))]
def keys_of_b1 : List IS := [(.expr (.bm .extend (.var 1) [(.rgl false [(.var 2), (.var 3)])]))]
def keys_of : List IS := [(.set 1 (.lst [])),
  (.for .seq [(.var 0)] (.tp [(.nm 2), (.nm 3)]) keys_of_b1),
  (.ret (.bi .tuple [(.var 1)]))]
def joined : List IS := [(.ret (.call 4 [(.bin .add (.var 0) (.var 1))]))]
def met_b1 : List IS := [(.iff (.val (.cmp .lt (.bi .max2 [(.var 3), (.var 5)]) (.bi .min2 [(.var 4), (.var 6)]))) [(.expr (.bm .append (.var 2) [(.tup [(.bi .max2 [(.var 3), (.var 5)]), (.bi .min2 [(.var 4), (.var 6)])])]))] [])]
def met_b2 : List IS := [(.for .seq [(.var 1)] (.tp [(.nm 5), (.nm 6)]) met_b1)]
def met : List IS := [(.set 2 (.lst [])),
  (.for .seq [(.var 0)] (.tp [(.nm 3), (.nm 4)]) met_b2),
  (.ret (.call 4 [(.var 2)]))]
def turned_out_b1 : List IS := [(.iff (.and (.val (.cmp .gt (.var 5) (.var 4))) (.val (.cmp .lt (.var 4) (.var 2)))) [(.expr (.bm .append (.var 3) [(.tup [(.var 4), (.bi .min2 [(.var 5), (.var 2)])])]))] []),
  (.set 4 (.bi .max2 [(.var 4), (.var 6)]))]
def turned_out : List IS := [(.set 3 (.lst [])),
  (.set 4 (.var 1)),
  (.for .seq [(.var 0)] (.tp [(.nm 5), (.nm 6)]) turned_out_b1),
  (.iff (.val (.cmp .lt (.var 4) (.var 2))) [(.expr (.bm .append (.var 3) [(.tup [(.var 4), (.var 2)])]))] []),
  (.ret (.bi .tuple [(.var 3)]))]
def without_b1 : List IS := [(.set 2 (.bin .add (.var 2) (.call 11 [(.var 1), (.var 3), (.var 4)])))]
def without : List IS := [(.set 2 (.tup [])),
  (.for .seq [(.var 0)] (.tp [(.nm 3), (.nm 4)]) without_b1),
  (.ret (.var 2))]
def is_within : List IS := [(.ret (.cmp .eq (.call 12 [(.var 0), (.var 1)]) (.tup [])))]
def lacking : List IS := [(.ret (.call 11 [(.var 0), (.var 1), (.var 2)]))]
def first_free_b1 : List IS := [(.iff (.val (.cmp .ge (.bin .sub (.var 5) (.var 4)) (.var 1))) [(.ret (.var 4))] [])]
def first_free : List IS := [(.for .seq [(.call 11 [(.var 0), (.var 2), (.var 3)])] (.tp [(.nm 4), (.nm 5)]) first_free_b1),
  (.ret (.cst .non))]
def parts_b1 : List IS := [(.expr (.bm .append (.var 2) [(.tup [(.var 3), (.bin .add (.var 3) (.var 1))])])),
  (.set 3 (.bin .add (.var 3) (.var 1)))]
def parts_b2 : List IS := [(.whil (.val (.cmp .gt (.bin .sub (.var 4) (.var 3)) (.var 1))) parts_b1),
  (.expr (.bm .append (.var 2) [(.tup [(.var 3), (.var 4)])]))]
def parts : List IS := [(.set 2 (.lst [])),
  (.for .seq [(.var 0)] (.tp [(.nm 3), (.nm 4)]) parts_b2),
  (.ret (.bi .tuple [(.var 2)]))]
def asks_b1 : List IS := [(.iff (.and (.val (.var 2)) (.val (.cmp .lt (.bin .sub (.var 3) (.ix (.ix (.var 2) (.neg (.cst (.int 1)))) (.cst (.int 1)))) (.var 1)))) [(.sub (.var 2) (.neg (.cst (.int 1))) (.tup [(.ix (.ix (.var 2) (.neg (.cst (.int 1)))) (.cst (.int 0))), (.var 4)]))] [(.expr (.bm .append (.var 2) [(.tup [(.var 3), (.var 4)])]))])]
def asks : List IS := [(.set 2 (.lst [])),
  (.for .seq [(.var 0)] (.tp [(.nm 3), (.nm 4)]) asks_b1),
  (.ret (.bi .tuple [(.var 2)]))]
def cost_of : List IS := [(.ret (.bi .sum [(.comp .seq [(.var 0)] [2, 3] (.tp [(.nm 2), (.nm 3)]) .yes (.bin .sub (.bin .add (.var 1) (.var 3)) (.var 2)))]))]
def waste : List IS := [(.set 2 (.call 17 [(.var 0), (.var 1)])),
  (.ret (.bin .sub (.bi .sum [(.comp .seq [(.var 2)] [3, 4] (.tp [(.nm 3), (.nm 4)]) .yes (.bin .sub (.var 4) (.var 3)))]) (.bi .sum [(.comp .seq [(.var 0)] [3, 4] (.tp [(.nm 3), (.nm 4)]) .yes (.bin .sub (.var 4) (.var 3)))])))]
def asks_within_b1 : List IS := [(.iff (.and (.val (.var 4)) (.val (.cmp .nin (.bin .sub (.var 5) (.cst (.int 1))) (.var 3)))) [(.sub (.var 4) (.neg (.cst (.int 1))) (.tup [(.ix (.ix (.var 4) (.neg (.cst (.int 1)))) (.cst (.int 0))), (.var 7)]))] [(.expr (.bm .append (.var 4) [(.tup [(.var 6), (.var 7)])]))])]
def asks_within : List IS := [(.set 2 (.fz (.bi .sorted [(.fz (.comp .ezip [(.cut (.var 0) none (some (.neg (.cst (.int 1))))), (.cut (.var 0) (some (.cst (.int 1))) none)] [5, 9, 10] (.tp [(.nm 5), (.tp [(.nm 9), (.nm 10)])]) .yes (.tup [(.bin .sub (.ix (.var 10) (.cst (.int 0))) (.ix (.var 9) (.cst (.int 1)))), (.var 5)])))]))),
  (.set 3 (.fz (.comp .seq [(.fz (.cut (.var 2) (some (.bi .max2 [(.cst (.int 0)), (.bin .sub (.bi .len [(.var 0)]) (.var 1))])) none))] [8, 5] (.tp [(.nm 8), (.nm 5)]) .yes (.var 5)))),
  (.set 4 (.lst [])),
  (.for .enum [(.var 0)] (.tp [(.nm 5), (.tp [(.nm 6), (.nm 7)])]) asks_within_b1),
  (.ret (.bi .tuple [(.var 4)]))]
def Source___init__ : List IS := [(.put 1 0 (.var 0) (.lst [(.fz (.bi .dictt [(.var 1)]))])),
  (.put 1 1 (.var 0) (.lst [])),
  (.put 1 2 (.var 0) (.cst (.int 0))),
  (.put 1 3 (.var 0) (.cst (.int 0)))]
def Source_clock : List IS := [(.ret (.bi .len [(.fld 1 1 (.var 0))]))]
def Source_need : List IS := [(.iff (.not (.val (.chn .le .le (.cst (.int 0)) (.var 1) (.meth 5 (.var 0) [])))) [(.rais 1)] [])]
def Source_look : List IS := [(.ret (.meth 12 (.var 0) [(.meth 5 (.var 0) []), (.var 1), (.var 2)]))]
def Source_look_at : List IS := [(.expr (.meth 13 (.var 0) [(.var 1)])),
  (.set 4 (.ix (.fld 1 0 (.var 0)) (.var 1))),
  (.ret (.ptl (.fz (.comp .seq [(.fz (.bi .sortd [(.var 4)]))] [5] (.nm 5) (.val (.chn .le .lt (.var 2) (.var 5) (.var 3))) (.tup [(.var 5), (.ix (.var 4) (.var 5))])))))]
def Source_ask : List IS := [(.put 1 2 (.var 0) (.bin .add (.fld 1 2 (.var 0)) (.cst (.int 1)))),
  (.put 1 3 (.var 0) (.bin .sub (.bin .add (.fld 1 3 (.var 0)) (.var 2)) (.var 1))),
  (.ret (.meth 11 (.var 0) [(.var 1), (.var 2)]))]
def Source_told : List IS := [(.ret (.tup [(.fld 1 2 (.var 0)), (.fld 1 3 (.var 0))]))]
def Source_put : List IS := [(.set 3 (.bi .dict [(.ix (.fld 1 0 (.var 0)) (.neg (.cst (.int 1))))])),
  (.sub (.var 3) (.var 1) (.var 2)),
  (.expr (.bm .append (.fld 1 0 (.var 0)) [(.fz (.var 3))])),
  (.expr (.bm .append (.fld 1 1 (.var 0)) [(.var 1)]))]
def Source_drop : List IS := [(.set 2 (.bi .dict [(.ix (.fld 1 0 (.var 0)) (.neg (.cst (.int 1))))])),
  (.expr (.bm .dpop (.var 2) [(.var 1), (.cst .non)])),
  (.expr (.bm .append (.fld 1 0 (.var 0)) [(.fz (.var 2))])),
  (.expr (.bm .append (.fld 1 1 (.var 0)) [(.var 1)]))]
def Source_changes_since : List IS := [(.expr (.meth 13 (.var 0) [(.var 1)])),
  (.ret (.call 5 [(.fz (.cut (.fld 1 1 (.var 0)) (some (.var 1)) none))]))]
def Source_unlike_since : List IS := [(.expr (.meth 13 (.var 0) [(.var 1)])),
  (.set 2 (.ix (.fld 1 0 (.var 0)) (.var 1))),
  (.set 3 (.ix (.fld 1 0 (.var 0)) (.neg (.cst (.int 1))))),
  (.set 4 (.fz (.bi .ssort [(.fz (.bin .add (.fz (.bi .listd [(.var 2)])) (.fz (.bi .listd [(.var 3)]))))]))),
  (.ret (.call 5 [(.fz (.comp .seq [(.var 4)] [5] (.nm 5) (.val (.cmp .ne (.bm .get (.var 2) [(.var 5), (.cst .non)]) (.bm .get (.var 3) [(.var 5), (.cst .non)]))) (.var 5)))]))]
def Keeper___init__ : List IS := [(.put 2 0 (.var 0) (.var 1)),
  (.put 2 1 (.var 0) (.var 2)),
  (.put 2 2 (.var 0) (.var 3)),
  (.put 2 3 (.var 0) (.meth 5 (.var 1) [])),
  (.put 2 4 (.var 0) (.cst (.int 0))),
  (.put 2 5 (.var 0) (.dic [])),
  (.put 2 6 (.var 0) (.dic []))]
def Keeper_known : List IS := [(.ret (.call 5 [(.fz (.bi .sortd [(.fld 2 5 (.var 0))]))]))]
def Keeper_forget_b1 : List IS := [(.expr (.bm .dpop (.fld 2 5 (.var 0)) [(.var 2)])),
  (.expr (.bm .dpop (.fld 2 6 (.var 0)) [(.var 2), (.cst .non)]))]
def Keeper_forget : List IS := [(.for .seq [(.call 8 [(.call 10 [(.meth 10 (.var 0) []), (.var 1)])])] (.nm 2) Keeper_forget_b1)]
def Keeper_hear : List IS := [(.set 1 (.call 10 [(.meth 10 (.var 0) []), (.meth 4 (.fld 2 0 (.var 0)) [(.fld 2 3 (.var 0))])])),
  (.expr (.meth 8 (.var 0) [(.var 1)])),
  (.put 2 3 (.var 0) (.meth 5 (.fld 2 0 (.var 0)) [])),
  (.ret (.var 1))]
def Keeper_take_b1 : List IS := [(.expr (.bm .dpop (.fld 2 6 (.var 0)) [(.var 5), (.cst .non)])),
  (.sub (.fld 2 5 (.var 0)) (.var 5) (.fld 2 4 (.var 0))),
  (.iff (.val (.cmp .kin (.var 5) (.var 4))) [(.sub (.fld 2 6 (.var 0)) (.var 5) (.ix (.var 4) (.var 5)))] [])]
def Keeper_take : List IS := [(.set 4 (.fz (.bi .dictt [(.var 3)]))),
  (.for .rng [(.var 1), (.var 2)] (.nm 5) Keeper_take_b1)]
def Keeper_shrink_b1 : List IS := [(.expr (.bm .dpop (.fld 2 5 (.var 0)) [(.var 3)])),
  (.expr (.bm .dpop (.fld 2 6 (.var 0)) [(.var 3), (.cst .non)]))]
def Keeper_shrink : List IS := [(.set 1 (.fz (.bi .sorted [(.fz (.lk (.comp .keys [(.fld 2 5 (.var 0))] [3] (.nm 3) .yes (.tup [(.ix (.fld 2 5 (.var 0)) (.var 3)), (.var 3)]))))]))),
  (.for .seq [(.fz (.cut (.var 1) none (some (.bi .max2 [(.cst (.int 0)), (.bin .sub (.bi .len [(.var 1)]) (.fld 2 1 (.var 0)))]))))] (.tp [(.nm 2), (.nm 3)]) Keeper_shrink_b1)]
def Keeper_told : List IS := [(.ret (.ptl (.fz (.comp .seq [(.fz (.bi .sortd [(.fld 2 6 (.var 0))]))] [3] (.nm 3) (.val (.chn .le .lt (.var 1) (.var 3) (.var 2))) (.tup [(.var 3), (.ix (.fld 2 6 (.var 0)) (.var 3))])))))]
def Keeper_peek : List IS := [(.iff (.not (.val (.call 13 [(.tup [(.tup [(.var 1), (.var 2)])]), (.meth 10 (.var 0) [])]))) [(.ret (.cst .non))] []),
  (.ret (.wk (.meth 22 (.var 0) [(.var 1), (.var 2)])))]
def Keeper_plan : List IS := [(.ret (.call 17 [(.call 14 [(.meth 10 (.var 0) []), (.var 1), (.var 2)]), (.fld 2 2 (.var 0))]))]
def Keeper_ask_b1 : List IS := [(.expr (.meth 21 (.var 0) [(.var 3), (.var 4), (.meth 2 (.fld 2 0 (.var 0)) [(.var 3), (.var 4)])]))]
def Keeper_ask_b2 : List IS := [(.sub (.fld 2 5 (.var 0)) (.var 5) (.fld 2 4 (.var 0)))]
def Keeper_ask : List IS := [(.expr (.meth 9 (.var 0) [])),
  (.put 2 4 (.var 0) (.bin .add (.fld 2 4 (.var 0)) (.cst (.int 1)))),
  (.for .seq [(.meth 16 (.var 0) [(.var 1), (.var 2)])] (.tp [(.nm 3), (.nm 4)]) Keeper_ask_b1),
  (.for .rng [(.var 1), (.var 2)] (.nm 5) Keeper_ask_b2),
  (.set 6 (.wk (.meth 22 (.var 0) [(.var 1), (.var 2)]))),
  (.expr (.meth 19 (.var 0) [])),
  (.ret (.var 6))]
def Keeper_page_b1 : List IS := [(.set 3 (.bin .add (.var 3) (.meth 2 (.var 0) [(.var 4), (.bi .min2 [(.cst (.int 100)), (.bin .add (.var 4) (.cst (.int 8)))])]))),
  (.set 4 (.bi .min2 [(.cst (.int 100)), (.bin .add (.var 4) (.cst (.int 8)))]))]
def Keeper_page : List IS := [(.set 3 (.tup [])),
  (.set 4 (.var 1)),
  (.whil (.and (.val (.cmp .lt (.var 4) (.cst (.int 100)))) (.val (.cmp .lt (.bi .len [(.var 3)]) (.var 2)))) Keeper_page_b1),
  (.iff (.val (.cmp .ge (.bi .len [(.var 3)]) (.var 2))) [(.set 3 (.cut (.var 3) none (some (.var 2)))),
  (.set 4 (.var 1)),
  (.iff (.val (.var 3)) [(.set 4 (.bin .add (.ix (.ix (.var 3) (.neg (.cst (.int 1)))) (.cst (.int 0))) (.cst (.int 1))))] [])] []),
  (.iff (.val (.cmp .ge (.var 4) (.cst (.int 100)))) [(.ret (.tup [(.var 3), (.cst .non)]))] []),
  (.ret (.tup [(.var 3), (.var 4)]))]
def Keeper_share_b1 : List IS := [(.expr (.meth 21 (.var 0) [(.var 3), (.var 4), (.meth 22 (.var 1) [(.var 3), (.var 4)])]))]
def Keeper_share : List IS := [(.expr (.meth 9 (.var 0) [])),
  (.expr (.meth 9 (.var 1) [])),
  (.set 2 (.call 12 [(.meth 10 (.var 1) []), (.meth 10 (.var 0) [])])),
  (.put 2 4 (.var 0) (.bin .add (.fld 2 4 (.var 0)) (.cst (.int 1)))),
  (.for .seq [(.var 2)] (.tp [(.nm 3), (.nm 4)]) Keeper_share_b1),
  (.expr (.meth 19 (.var 0) [])),
  (.ret (.var 2))]
def Summer___init__ : List IS := [(.put 3 0 (.var 0) (.var 1)),
  (.put 3 1 (.var 0) (.meth 5 (.var 1) [])),
  (.put 3 2 (.var 0) (.tup [])),
  (.put 3 3 (.var 0) (.cst (.int 0)))]
def Summer_sums : List IS := [(.ret (.fld 3 2 (.var 0)))]
def Summer_asked : List IS := [(.ret (.fld 3 3 (.var 0)))]
def Summer_hear : List IS := [(.set 1 (.meth 4 (.fld 3 0 (.var 0)) [(.fld 3 1 (.var 0))])),
  (.set 2 (.bi .tuple [(.fz (.comp .seq [(.fld 3 2 (.var 0))] [4] (.nm 4) (.not (.val (.call 51 [(.var 1), (.ix (.var 4) (.cst (.int 0))), (.ix (.var 4) (.cst (.int 1)))]))) (.var 4)))])),
  (.set 3 (.bin .sub (.bi .len [(.fld 3 2 (.var 0))]) (.bi .len [(.var 2)]))),
  (.put 3 2 (.var 0) (.var 2)),
  (.put 3 1 (.var 0) (.meth 5 (.fld 3 0 (.var 0)) [])),
  (.ret (.var 3))]
def Summer_ask : List IS := [(.expr (.meth 9 (.var 0) [])),
  (.set 3 (.meth 7 (.var 0) [(.var 1), (.var 2)])),
  (.iff (.val (.isn false (.var 3))) [(.set 3 (.bi .sum [(.fz (.comp .seq [(.wk (.meth 2 (.fld 3 0 (.var 0)) [(.var 1), (.var 2)]))] [4, 5] (.tp [(.nm 4), (.nm 5)]) .yes (.var 5)))])),
  (.put 3 3 (.var 0) (.bin .add (.fld 3 3 (.var 0)) (.cst (.int 1)))),
  (.put 3 2 (.var 0) (.bi .tuple [(.fz (.bi .sort3 [(.bin .add (.fld 3 2 (.var 0)) (.tup [(.tup [(.var 1), (.var 2), (.var 3)])]))]))]))] []),
  (.ret (.var 3))]
def touches : List IS := [(.ret (.bi .any [(.fz (.comp .seq [(.var 0)] [3, 4] (.tp [(.nm 3), (.nm 4)]) .yes (.andv (.cmp .lt (.var 3) (.var 2)) (.cmp .lt (.var 1) (.var 4)))))]))]
def holds_from_b1 : List IS := [(.set 5 (.bin .sub (.var 5) (.cst (.int 1))))]
def holds_from : List IS := [(.set 4 (.wk (.meth 12 (.var 0) [(.var 1), (.var 2), (.var 3)]))),
  (.set 5 (.var 1)),
  (.whil (.and (.val (.cmp .gt (.var 5) (.cst (.int 0)))) (.val (.cmp .eq (.wk (.meth 12 (.var 0) [(.bin .sub (.var 5) (.cst (.int 1))), (.var 2), (.var 3)])) (.var 4)))) holds_from_b1),
  (.ret (.var 5))]
def holds_to_b1 : List IS := [(.iff (.val (.cmp .ne (.wk (.meth 12 (.var 0) [(.var 5), (.var 2), (.var 3)])) (.var 4))) [(.ret (.bin .sub (.var 5) (.cst (.int 1))))] [])]
def holds_to : List IS := [(.set 4 (.wk (.meth 12 (.var 0) [(.var 1), (.var 2), (.var 3)]))),
  (.for .rng [(.bin .add (.var 1) (.cst (.int 1))), (.bin .add (.meth 5 (.var 0) []) (.cst (.int 1)))] (.nm 5) holds_to_b1),
  (.ret (.cst .non))]
def clocks_of : List IS := [(.ret (.bi .tuple [(.fz (.comp .rng [(.bin .add (.meth 5 (.var 0) []) (.cst (.int 1)))] [4] (.nm 4) (.val (.cmp .eq (.wk (.meth 12 (.var 0) [(.var 4), (.var 1), (.var 2)])) (.var 3))) (.var 4)))]))]
def together_b1 : List IS := [(.set 6 (.call 54 [(.var 0), (.var 3), (.var 4), (.var 5)])),
  (.set 2 (.bi .tuple [(.fz (.comp .seq [(.var 2)] [7] (.nm 7) (.val (.cmp .inn (.var 7) (.var 6))) (.var 7)))]))]
def together : List IS := [(.set 2 (.rgl true [(.bin .add (.meth 5 (.var 0) []) (.cst (.int 1)))])),
  (.for .seq [(.var 1)] (.tp [(.nm 3), (.nm 4), (.nm 5)]) together_b1),
  (.ret (.var 2))]
def lately : List IS := [(.set 2 (.call 55 [(.var 0), (.var 1)])),
  (.iff (.not (.val (.var 2))) [(.rais 1)] []),
  (.ret (.ix (.var 2) (.neg (.cst (.int 1)))))]
def number_in : List IS := [(.iff (.or (.not (.val (.chn .le .le (.cst (.int 1)) (.bi .len [(.var 0)]) (.cst (.int 3))))) (.not (.val (.bi .all [(.fz (.comp .sgn [(.var 0)] [1] (.nm 1) .yes (.cmp .sin (.var 1) (.cst (.str "0123456789")))))])))) [(.rais 2)] []),
  (.ret (.bi .ints [(.var 0)]))]
def law_same : List IS := [(.iff (.val (.isn false (.var 1))) [(.ret (.isn false (.var 0)))] []),
  (.iff (.val (.isi .bool (.var 1))) [(.ret (.andv (.isi .bool (.var 0)) (.cmp .eq (.var 0) (.var 1))))] []),
  (.iff (.val (.isi .tuple (.var 1))) [(.iff (.or (.not (.val (.isi .tuple (.var 0)))) (.val (.cmp .ne (.bi .len [(.var 0)]) (.bi .len [(.var 1)])))) [(.ret (.cst (.bl false)))] []),
  (.ret (.bi .all [(.comp .zip [(.var 0), (.var 1)] [2, 3] (.tp [(.nm 2), (.nm 3)]) .yes (.call 101 [(.var 2), (.var 3)]))]))] []),
  (.iff (.val (.isi .str (.var 1))) [(.ret (.andv (.isi .str (.var 0)) (.cmp .eq (.var 0) (.var 1))))] []),
  (.ret (.andv (.isi .int (.var 0)) (.andv (.notv (.isi .bool (.var 0))) (.cmp .eq (.var 0) (.var 1)))))]
def law_draw_k01 : List IS := [(.expr (.bm .append (.var 1) [(.cst (.int 0))])),
  (.set 3 (.bi .len [(.var 1)])),
  (.set 4 (.cst (.int 0))),
  (.iff (.val (.var 0)) [(.set 4 (.ix (.var 0) (.bin .mod (.var 3) (.bi .len [(.var 0)]))))] []),
  (.set 5 (.bin .mod (.bin .add (.var 4) (.bin .mul (.cst (.int 104729)) (.var 3))) (.cst (.int 4294967291)))),
  (.set 5 (.bin .mod (.bin .mul (.bin .mod (.bin .mul (.var 5) (.var 5)) (.cst (.int 4294967279))) (.cst (.int 48271))) (.cst (.int 4294967291)))),
  (.ret (.bin .mod (.bin .fdiv (.var 5) (.cst (.int 64))) (.var 2)))]
def law_draw_k18 : List IS := [(.expr (.bm .append (.var 1) [(.cst (.int 0))])),
  (.set 3 (.bi .len [(.var 1)])),
  (.set 4 (.cst (.int 0))),
  (.iff (.val (.var 0)) [(.set 4 (.ix (.var 0) (.bin .mod (.var 3) (.bi .len [(.var 0)]))))] []),
  (.set 5 (.bin .mod (.bin .add (.var 4) (.bin .mul (.cst (.int 104729)) (.var 3))) (.cst (.int 4294967291)))),
  (.set 5 (.bin .mod (.bin .mul (.bin .mod (.bin .mul (.var 5) (.var 5)) (.cst (.int 4294967279))) (.cst (.int 48271))) (.cst (.int 4294967291)))),
  (.set 6 (.bin .mod (.bin .mul (.bin .mod (.bin .mul (.var 5) (.var 5)) (.cst (.int 4294967279))) (.cst (.int 69621))) (.cst (.int 4294967291)))),
  (.ret (.bin .mod (.bin .add (.bin .mul (.bin .fdiv (.var 5) (.cst (.int 64))) (.cst (.int 67108864))) (.bin .fdiv (.var 6) (.cst (.int 64)))) (.var 2)))]
def law_pick : List IS := [(.ret (.ix (.var 2) (.call 102 [(.var 0), (.var 1), (.bi .len [(.var 2)])])))]
def law_stretches_b1 : List IS := [(.set 6 (.call 102 [(.var 0), (.var 1), (.ix (.lst [(.cst (.int 100)), (.cst (.int 24))]) (.bi .int1 [(.var 4)]))])),
  (.set 7 (.bin .add (.cst (.int 1)) (.call 102 [(.var 0), (.var 1), (.call 103 [(.var 0), (.var 1), (.lst [(.cst (.int 1)), (.cst (.int 4)), (.cst (.int 12)), (.cst (.int 100))])])]))),
  (.set 3 (.bin .add (.var 3) (.tup [(.tup [(.var 6), (.bi .min2 [(.cst (.int 100)), (.bin .add (.var 6) (.var 7))])])])))]
def law_stretches : List IS := [(.set 3 (.tup [])),
  (.set 4 (.cmp .eq (.call 102 [(.var 0), (.var 1), (.cst (.int 3))]) (.cst (.int 0)))),
  (.for .rng [(.call 102 [(.var 0), (.var 1), (.bin .add (.var 2) (.cst (.int 1)))])] (.nm 5) law_stretches_b1),
  (.ret (.var 3))]
def law_keys_k01_b1 : List IS := [(.sub (.var 1) (.var 4) (.cst (.bl true)))]
def law_keys_k01_b2 : List IS := [(.for .rng [(.var 2), (.var 3)] (.nm 4) law_keys_k01_b1)]
def law_keys_k01 : List IS := [(.set 1 (.bin .mul (.lst [(.cst (.bl false))]) (.cst (.int 100)))),
  (.for .seq [(.var 0)] (.tp [(.nm 2), (.nm 3)]) law_keys_k01_b2),
  (.ret (.var 1))]
def law_keys_k18_b1 : List IS := [(.expr (.bm .extend (.var 1) [(.rgl false [(.var 2), (.var 3)])]))]
def law_keys_k18 : List IS := [(.set 1 (.lst [])),
  (.for .seq [(.var 0)] (.tp [(.nm 2), (.nm 3)]) law_keys_k18_b1),
  (.ret (.var 1))]
def law_form_b1 : List IS := [(.iff (.and (.val (.ix (.var 0) (.var 2))) (.and (.val (.cmp .gt (.var 2) (.cst (.int 0)))) (.val (.ix (.var 0) (.bin .sub (.var 2) (.cst (.int 1))))))) [(.sub (.var 1) (.neg (.cst (.int 1))) (.tup [(.ix (.ix (.var 1) (.neg (.cst (.int 1)))) (.cst (.int 0))), (.bin .add (.var 2) (.cst (.int 1)))]))] [(.iff (.val (.ix (.var 0) (.var 2))) [(.expr (.bm .append (.var 1) [(.tup [(.var 2), (.bin .add (.var 2) (.cst (.int 1)))])]))] [])])]
def law_form : List IS := [(.set 1 (.lst [])),
  (.for .rng [(.cst (.int 100))] (.nm 2) law_form_b1),
  (.ret (.bi .tuple [(.var 1)]))]
def law_spread_k01 : List IS := [(.ret (.call 106 [(.call 105 [(.call 104 [(.var 0), (.var 1), (.var 2)])])]))]
def law_spread_k18_b1 : List IS := [(.set 5 (.bin .add (.bin .add (.var 2) (.cst (.int 1))) (.call 102 [(.var 0), (.var 1), (.call 103 [(.var 0), (.var 1), (.lst [(.cst (.int 3)), (.cst (.int 3)), (.cst (.int 20))])])]))),
  (.iff (.val (.cmp .le (.var 5) (.cst (.int 100)))) [(.set 3 (.bin .add (.var 3) (.tup [(.tup [(.var 2), (.var 5)])]))),
  (.set 2 (.bin .add (.bin .add (.var 5) (.cst (.int 1))) (.call 102 [(.var 0), (.var 1), (.call 103 [(.var 0), (.var 1), (.lst [(.cst (.int 2)), (.cst (.int 2)), (.cst (.int 15))])])])))] [])]
def law_spread_k18 : List IS := [(.par [2, 3] [(.call 102 [(.var 0), (.var 1), (.call 103 [(.var 0), (.var 1), (.lst [(.cst (.int 4)), (.cst (.int 60))])])]), (.tup [])]),
  (.for .rng [(.call 102 [(.var 0), (.var 1), (.cst (.int 7))])] (.nm 4) law_spread_k18_b1),
  (.ret (.var 3))]
def law_window_k01 : List IS := [(.set 2 (.call 102 [(.var 0), (.var 1), (.cst (.int 100))])),
  (.set 3 (.bin .add (.bin .add (.var 2) (.cst (.int 1))) (.call 102 [(.var 0), (.var 1), (.call 103 [(.var 0), (.var 1), (.lst [(.cst (.int 1)), (.cst (.int 8)), (.cst (.int 30)), (.cst (.int 100))])])]))),
  (.ret (.tup [(.var 2), (.bi .min2 [(.cst (.int 100)), (.var 3)])]))]
def law_window_k18 : List IS := [(.set 2 (.call 102 [(.var 0), (.var 1), (.cst (.int 100))])),
  (.ret (.tup [(.var 2), (.bin .add (.bin .add (.var 2) (.cst (.int 1))) (.call 102 [(.var 0), (.var 1), (.bin .sub (.cst (.int 100)) (.var 2))]))]))]
def law_window_k22 : List IS := [(.set 2 (.call 102 [(.var 0), (.var 1), (.cst (.int 100))])),
  (.ret (.tup [(.var 2), (.bin .add (.bin .add (.var 2) (.cst (.int 1))) (.call 102 [(.var 0), (.var 1), (.bi .min2 [(.bin .sub (.cst (.int 100)) (.var 2)), (.call 103 [(.var 0), (.var 1), (.lst [(.cst (.int 8)), (.cst (.int 30)), (.cst (.int 100))])])])]))]))]
def law_rows_k06_b1 : List IS := [(.sub (.var 2) (.call 102 [(.var 0), (.var 1), (.ix (.fz (.lst [(.cst (.int 100)), (.cst (.int 30))])) (.bin .mod (.var 3) (.cst (.int 2))))]) (.call 102 [(.var 0), (.var 1), (.cst (.int 10))]))]
def law_rows_k06 : List IS := [(.set 2 (.dic [])),
  (.for .rng [(.call 102 [(.var 0), (.var 1), (.cst (.int 26))])] (.nm 3) law_rows_k06_b1),
  (.lks (.set 4 (.fz (.comp .keys [(.var 2)] [5] (.nm 5) .yes (.tup [(.var 5), (.ix (.var 2) (.var 5))]))))),
  (.ret (.ptl (.var 4)))]
def law_rows_k22_b1 : List IS := [(.sub (.var 2) (.call 102 [(.var 0), (.var 1), (.cst (.int 100))]) (.call 102 [(.var 0), (.var 1), (.cst (.int 10))]))]
def law_rows_k22 : List IS := [(.set 2 (.dic [])),
  (.for .rng [(.call 102 [(.var 0), (.var 1), (.cst (.int 25))])] (.nm 3) law_rows_k22_b1),
  (.ret (.var 2))]
def law_in : List IS := [(.ret (.bi .tuple [(.fz (.comp .rng [(.var 1), (.var 2)] [3] (.nm 3) (.val (.cmp .kin (.var 3) (.var 0))) (.tup [(.var 3), (.ix (.var 0) (.var 3))])))]))]
def law_change_k06 : List IS := [(.set 2 (.call 102 [(.var 0), (.var 1), (.call 103 [(.var 0), (.var 1), (.fz (.lst [(.cst (.int 100)), (.cst (.int 30))]))])])),
  (.iff (.val (.cmp .eq (.call 102 [(.var 0), (.var 1), (.cst (.int 3))]) (.cst (.int 0)))) [(.ret (.tup [(.var 2), (.cst .non)]))] []),
  (.ret (.tup [(.var 2), (.call 102 [(.var 0), (.var 1), (.cst (.int 10))])]))]
def law_change_k22 : List IS := [(.set 4 (.call 103 [(.var 0), (.var 1), (.fz (.bin .add (.fz (.bi .sortd [(.var 3)])) (.fz (.lst [(.call 102 [(.var 0), (.var 1), (.cst (.int 100))])]))))])),
  (.iff (.val (.cmp .eq (.call 102 [(.var 0), (.var 1), (.cst (.int 3))]) (.cst (.int 0)))) [(.expr (.meth 6 (.var 2) [(.var 4)])),
  (.expr (.bm .dpop (.var 3) [(.var 4), (.cst .non)]))] [(.sub (.var 3) (.var 4) (.call 102 [(.var 0), (.var 1), (.cst (.int 10))])),
  (.expr (.meth 17 (.var 2) [(.var 4), (.ix (.var 3) (.var 4))]))])]
def law_changed : List IS := [(.set 2 (.bi .dict [(.var 0)])),
  (.iff (.val (.isn false (.ix (.var 1) (.cst (.int 1))))) [(.expr (.bm .dpop (.var 2) [(.ix (.var 1) (.cst (.int 0))), (.cst .non)]))] [(.sub (.var 2) (.ix (.var 1) (.cst (.int 0))) (.ix (.var 1) (.cst (.int 1))))]),
  (.ret (.fz (.var 2)))]
def law_do_change : List IS := [(.iff (.val (.isn false (.ix (.var 1) (.cst (.int 1))))) [(.ret (.meth 6 (.var 0) [(.ix (.var 1) (.cst (.int 0)))]))] []),
  (.ret (.meth 17 (.var 0) [(.ix (.var 1) (.cst (.int 0))), (.ix (.var 1) (.cst (.int 1)))]))]
def law_keep_b1 : List IS := [(.sub (.ix (.var 0) (.cst (.str "kept"))) (.var 7) (.ix (.var 0) (.cst (.str "turn"))))]
def law_keep_b2 : List IS := [(.for .rng [(.var 5), (.var 6)] (.nm 7) law_keep_b1)]
def law_keep : List IS := [(.expr (.call 123 [(.var 0), (.var 1)])),
  (.sub (.var 0) (.cst (.str "turn")) (.bin .add (.ix (.var 0) (.cst (.str "turn"))) (.cst (.int 1)))),
  (.set 4 (.call 125 [(.var 0), (.var 2), (.var 3)])),
  (.for .seq [(.bin .add (.var 4) (.tup [(.tup [(.var 2), (.var 3)])]))] (.tp [(.nm 5), (.nm 6)]) law_keep_b2),
  (.expr (.call 126 [(.var 0)])),
  (.ret (.var 4))]
def law_sum : List IS := [(.ret (.bi .sum [(.fz (.comp .seq [(.wk (.meth 11 (.var 0) [(.var 1), (.var 2)]))] [3, 4] (.tp [(.nm 3), (.nm 4)]) .yes (.var 4)))]))]
def law_mixed_b1 : List IS := [(.expr (.bm .append (.var 4) [(.bm .popi (.var 3) [(.call 102 [(.var 0), (.var 1), (.bi .len [(.var 3)])])])]))]
def law_mixed : List IS := [(.par [3, 4] [(.bi .list [(.var 2)]), (.lst [])]),
  (.whil (.val (.var 3)) law_mixed_b1),
  (.ret (.bi .tuple [(.var 4)]))]
def law_mixed_k36_b1 : List IS := [(.expr (.bm .append (.var 4) [(.bm .popi (.var 3) [(.call 102 [(.var 0), (.var 1), (.bi .len [(.var 3)])])])]))]
def law_mixed_k36 : List IS := [(.par [3, 4] [(.bi .list [(.var 2)]), (.lst [])]),
  (.whil (.val (.var 3)) law_mixed_k36_b1),
  (.ret (.ptl (.var 4)))]
def law_lately : List IS := [(.tryx [(.ret (.call 56 [(.var 0), (.var 1)]))] [1] [.ret (.cst .non)])]
end IR

set_option linter.all false
set_option maxRecDepth 100000
/-! the forms of the defs that stand in several laws -/
namespace IR
open DL PySem
def Summer_follows_b1 : List IS := [(.iff (.and (.val (.cmp .eq (.var 6) (.var 5))) (.val (.cmp .nkin (.var 7) (.var 3)))) [(.sub (.var 3) (.var 7) (.bin .add (.ix (.var 3) (.var 5)) (.var 8))),
  (.expr (.bm .append (.var 4) [(.var 7)]))] []),
  (.iff (.and (.val (.cmp .eq (.var 7) (.var 5))) (.val (.cmp .nkin (.var 6) (.var 3)))) [(.sub (.var 3) (.var 6) (.bin .sub (.ix (.var 3) (.var 5)) (.var 8))),
  (.expr (.bm .append (.var 4) [(.var 6)]))] [])]
def Summer_follows_b2 : List IS := [(.set 5 (.bm .pop (.var 4) [])),
  (.for .seq [(.fld 3 2 (.var 0))] (.tp [(.nm 6), (.nm 7), (.nm 8)]) Summer_follows_b1)]
def Summer_follows : List IS := [(.set 3 (.dic [(.var 1), (.cst (.int 0))])),
  (.set 4 (.lst [(.var 1)])),
  (.whil (.val (.var 4)) Summer_follows_b2),
  (.ret (.bm .get (.var 3) [(.var 2), (.cst .non)]))]
def written : List IS := [(.ret (.bm .join (.cst (.str ",")) [(.fz (.comp .seq [(.var 0)] [1, 2] (.tp [(.nm 1), (.nm 2)]) .yes (.fstr [(.var 1), (.cst (.str "-")), (.var 2)])))]))]
def stretch_in : List IS := [(.set 1 (.fz (.bm .split (.var 0) [(.cst (.str "-"))]))),
  (.iff (.val (.cmp .ne (.bi .len [(.var 1)]) (.cst (.int 2)))) [(.rais 2)] []),
  (.ret (.tup [(.call 58 [(.ix (.var 1) (.cst (.int 0)))]), (.call 58 [(.ix (.var 1) (.cst (.int 1)))])]))]
def read : List IS := [(.set 1 (.tup [])),
  (.iff (.val (.cmp .ne (.var 0) (.cst (.str "")))) [(.set 1 (.bi .tuple [(.fz (.compx .seq [(.fz (.bm .split (.var 0) [(.cst (.str ","))]))] [2] (.nm 2) .yes (.call 59 [(.var 2)])))]))] []),
  (.iff (.or (.not (.val (.call 3 [(.var 1)]))) (.val (.cmp .ne (.call 57 [(.var 1)]) (.var 0)))) [(.rais 2)] []),
  (.ret (.var 1))]
def law_new : List IS := [(.ret (.dic [(.cst (.str "room")), (.var 0), (.cst (.str "cost")), (.var 1), (.cst (.str "heard")), (.cst (.int 0)), (.cst (.str "turn")), (.cst (.int 0)), (.cst (.str "kept")), (.dic [])]))]
def law_hear_b1 : List IS := [(.expr (.bm .dpop (.ix (.var 0) (.cst (.str "kept"))) [(.var 3), (.cst .non)]))]
def law_hear : List IS := [(.set 2 (.fz (.comp .seq [(.fz (.cut (.var 1) (some (.ix (.var 0) (.cst (.str "heard")))) none))] [3, 4] (.tp [(.nm 3), (.nm 4)]) (.val (.cmp .kin (.var 3) (.ix (.var 0) (.cst (.str "kept"))))) (.var 3)))),
  (.for .seq [(.var 2)] (.nm 3) law_hear_b1),
  (.sub (.var 0) (.cst (.str "heard")) (.bi .len [(.var 1)])),
  (.ret (.call 106 [(.fz (.comp .rng [(.cst (.int 100))] [3] (.nm 3) .yes (.cmp .inn (.var 3) (.var 2))))]))]
def law_known : List IS := [(.ret (.call 106 [(.fz (.comp .rng [(.cst (.int 100))] [1] (.nm 1) .yes (.cmp .kin (.var 1) (.ix (.var 0) (.cst (.str "kept"))))))]))]
def law_plan_b1 : List IS := [(.iff (.and (.val (.var 3)) (.val (.cmp .lt (.bin .sub (.var 4) (.ix (.ix (.var 3) (.neg (.cst (.int 1)))) (.cst (.int 1)))) (.ix (.var 0) (.cst (.str "cost")))))) [(.set 3 (.bin .add (.cut (.var 3) none (some (.neg (.cst (.int 1))))) (.tup [(.tup [(.ix (.ix (.var 3) (.neg (.cst (.int 1)))) (.cst (.int 0))), (.var 5)])])))] [(.set 3 (.bin .add (.var 3) (.tup [(.tup [(.var 4), (.var 5)])])))])]
def law_plan : List IS := [(.set 3 (.tup [])),
  (.for .seq [(.call 106 [(.fz (.comp .rng [(.cst (.int 100))] [6] (.nm 6) .yes (.andv (.chn .le .lt (.var 1) (.var 6) (.var 2)) (.cmp .nkin (.var 6) (.ix (.var 0) (.cst (.str "kept")))))))])] (.tp [(.nm 4), (.nm 5)]) law_plan_b1),
  (.ret (.var 3))]
def law_shrink_b1 : List IS := [(.expr (.bm .dpop (.ix (.var 0) (.cst (.str "kept"))) [(.var 3)]))]
def law_shrink : List IS := [(.set 1 (.fz (.bi .sorted [(.fz (.lk (.comp .keys [(.ix (.var 0) (.cst (.str "kept")))] [3] (.nm 3) .yes (.tup [(.ix (.ix (.var 0) (.cst (.str "kept"))) (.var 3)), (.var 3)]))))]))),
  (.for .seq [(.fz (.cut (.var 1) none (some (.bi .max2 [(.cst (.int 0)), (.bin .sub (.bi .len [(.var 1)]) (.ix (.var 0) (.cst (.str "room"))))]))))] (.tp [(.nm 2), (.nm 3)]) law_shrink_b1)]
end IR

set_option Elab.async false
set_option linter.all false
set_option maxRecDepth 100000
/-! the meaning, row by row, for rewriting -/
namespace DL
open PySem PySem.Spec PyProof.Rows L2
section
variable {c : CallT} {G : Gm} {δ r : DSt} {A : AH} {Q : QE} {E : XQ} {QT : Bool → AH → Prop} {QA : List D → AH → Prop} {QO : Option Int → AH → Prop} {P : Pst} {x y d : D} {a b e o : IE} {es : List IE} {s : IS} {ss body bs : List IS} {t u : IT} {tg : Tg}
def endP (Q : QE) (E : XQ) : Pst := ⟨fun _ A' => ∃ B, Sub B A' ∧ Q .non B, fun v A' => ∃ B, Sub B A' ∧ Q v B, fun _ _ => False, fun x _ A' => ∃ B, Sub B A' ∧ E x B⟩
theorem callN_mk {n f : Nat} {fd : FnD} {ds : List D} (h : G.fn f = some fd) (hl : ds.length = fd.np) (k : wpSs (callN G n) G fd.body (endP Q E) (startD fd.ns ds) A) : callN G (n + 1) f ds A Q E := by
  unfold callN
  rw [h]
  exact ⟨hl, k⟩
theorem end_rt {v : D} : (endP Q E).rt v A = ∃ B, Sub B A ∧ Q v B := (rfl)
theorem end_nx : (endP Q E).nx δ A = ∃ B, Sub B A ∧ Q .non B := (rfl)
theorem end_ex {i : Nat} : (endP Q E).ex i δ A = ∃ B, Sub B A ∧ E i B := (rfl)
theorem ret_at {v : D} {B : AH} (s : Sub B A) (q : Q v B) : ∃ B, Sub B A ∧ Q v B := ⟨B, s, q⟩
theorem ret_here {v : D} (q : Q v A) : ∃ B, Sub B A ∧ Q v B := ⟨A, Sub.refl A, q⟩

theorem wq_var0 : wpE c G (.var 0) (some d :: r) A Q E = Q d A := (rfl)
theorem wq_var1 {x0 : Option D} : wpE c G (.var 1) (x0 :: some d :: r) A Q E = Q d A := (rfl)
theorem wq_var2 {x0 x1 : Option D} : wpE c G (.var 2) (x0 :: x1 :: some d :: r) A Q E = Q d A := (rfl)
theorem wq_var3 {x0 x1 x2 : Option D} : wpE c G (.var 3) (x0 :: x1 :: x2 :: some d :: r) A Q E = Q d A := (rfl)
theorem wq_var4 {x0 x1 x2 x3 : Option D} : wpE c G (.var 4) (x0 :: x1 :: x2 :: x3 :: some d :: r) A Q E = Q d A := (rfl)
theorem wq_var5 {x0 x1 x2 x3 x4 : Option D} : wpE c G (.var 5) (x0 :: x1 :: x2 :: x3 :: x4 :: some d :: r) A Q E = Q d A := (rfl)
theorem wq_var6 {x0 x1 x2 x3 x4 x5 : Option D} : wpE c G (.var 6) (x0 :: x1 :: x2 :: x3 :: x4 :: x5 :: some d :: r) A Q E = Q d A := (rfl)
theorem wq_var7 {x0 x1 x2 x3 x4 x5 x6 : Option D} : wpE c G (.var 7) (x0 :: x1 :: x2 :: x3 :: x4 :: x5 :: x6 :: some d :: r) A Q E = Q d A := (rfl)
theorem wq_var8 {x0 x1 x2 x3 x4 x5 x6 x7 : Option D} : wpE c G (.var 8) (x0 :: x1 :: x2 :: x3 :: x4 :: x5 :: x6 :: x7 :: some d :: r) A Q E = Q d A := (rfl)
theorem wq_var9 {x0 x1 x2 x3 x4 x5 x6 x7 x8 : Option D} : wpE c G (.var 9) (x0 :: x1 :: x2 :: x3 :: x4 :: x5 :: x6 :: x7 :: x8 :: some d :: r) A Q E = Q d A := (rfl)
theorem wq_var10 {x0 x1 x2 x3 x4 x5 x6 x7 x8 x9 : Option D} : wpE c G (.var 10) (x0 :: x1 :: x2 :: x3 :: x4 :: x5 :: x6 :: x7 :: x8 :: x9 :: some d :: r) A Q E = Q d A := (rfl)
theorem wq_var11 {x0 x1 x2 x3 x4 x5 x6 x7 x8 x9 x10 : Option D} : wpE c G (.var 11) (x0 :: x1 :: x2 :: x3 :: x4 :: x5 :: x6 :: x7 :: x8 :: x9 :: x10 :: some d :: r) A Q E = Q d A := (rfl)
theorem wq_var12 {x0 x1 x2 x3 x4 x5 x6 x7 x8 x9 x10 x11 : Option D} : wpE c G (.var 12) (x0 :: x1 :: x2 :: x3 :: x4 :: x5 :: x6 :: x7 :: x8 :: x9 :: x10 :: x11 :: some d :: r) A Q E = Q d A := (rfl)
theorem wq_var13 {x0 x1 x2 x3 x4 x5 x6 x7 x8 x9 x10 x11 x12 : Option D} : wpE c G (.var 13) (x0 :: x1 :: x2 :: x3 :: x4 :: x5 :: x6 :: x7 :: x8 :: x9 :: x10 :: x11 :: x12 :: some d :: r) A Q E = Q d A := (rfl)
theorem wq_var14 {x0 x1 x2 x3 x4 x5 x6 x7 x8 x9 x10 x11 x12 x13 : Option D} : wpE c G (.var 14) (x0 :: x1 :: x2 :: x3 :: x4 :: x5 :: x6 :: x7 :: x8 :: x9 :: x10 :: x11 :: x12 :: x13 :: some d :: r) A Q E = Q d A := (rfl)
theorem wq_var15 {x0 x1 x2 x3 x4 x5 x6 x7 x8 x9 x10 x11 x12 x13 x14 : Option D} : wpE c G (.var 15) (x0 :: x1 :: x2 :: x3 :: x4 :: x5 :: x6 :: x7 :: x8 :: x9 :: x10 :: x11 :: x12 :: x13 :: x14 :: some d :: r) A Q E = Q d A := (rfl)
theorem wq_var16 {x0 x1 x2 x3 x4 x5 x6 x7 x8 x9 x10 x11 x12 x13 x14 x15 : Option D} : wpE c G (.var 16) (x0 :: x1 :: x2 :: x3 :: x4 :: x5 :: x6 :: x7 :: x8 :: x9 :: x10 :: x11 :: x12 :: x13 :: x14 :: x15 :: some d :: r) A Q E = Q d A := (rfl)
theorem wq_var17 {x0 x1 x2 x3 x4 x5 x6 x7 x8 x9 x10 x11 x12 x13 x14 x15 x16 : Option D} : wpE c G (.var 17) (x0 :: x1 :: x2 :: x3 :: x4 :: x5 :: x6 :: x7 :: x8 :: x9 :: x10 :: x11 :: x12 :: x13 :: x14 :: x15 :: x16 :: some d :: r) A Q E = Q d A := (rfl)
theorem wq_var18 {x0 x1 x2 x3 x4 x5 x6 x7 x8 x9 x10 x11 x12 x13 x14 x15 x16 x17 : Option D} : wpE c G (.var 18) (x0 :: x1 :: x2 :: x3 :: x4 :: x5 :: x6 :: x7 :: x8 :: x9 :: x10 :: x11 :: x12 :: x13 :: x14 :: x15 :: x16 :: x17 :: some d :: r) A Q E = Q d A := (rfl)
theorem wq_var19 {x0 x1 x2 x3 x4 x5 x6 x7 x8 x9 x10 x11 x12 x13 x14 x15 x16 x17 x18 : Option D} : wpE c G (.var 19) (x0 :: x1 :: x2 :: x3 :: x4 :: x5 :: x6 :: x7 :: x8 :: x9 :: x10 :: x11 :: x12 :: x13 :: x14 :: x15 :: x16 :: x17 :: x18 :: some d :: r) A Q E = Q d A := (rfl)
theorem wq_var20 {x0 x1 x2 x3 x4 x5 x6 x7 x8 x9 x10 x11 x12 x13 x14 x15 x16 x17 x18 x19 : Option D} : wpE c G (.var 20) (x0 :: x1 :: x2 :: x3 :: x4 :: x5 :: x6 :: x7 :: x8 :: x9 :: x10 :: x11 :: x12 :: x13 :: x14 :: x15 :: x16 :: x17 :: x18 :: x19 :: some d :: r) A Q E = Q d A := (rfl)
theorem wq_var21 {x0 x1 x2 x3 x4 x5 x6 x7 x8 x9 x10 x11 x12 x13 x14 x15 x16 x17 x18 x19 x20 : Option D} : wpE c G (.var 21) (x0 :: x1 :: x2 :: x3 :: x4 :: x5 :: x6 :: x7 :: x8 :: x9 :: x10 :: x11 :: x12 :: x13 :: x14 :: x15 :: x16 :: x17 :: x18 :: x19 :: x20 :: some d :: r) A Q E = Q d A := (rfl)
theorem wq_var22 {x0 x1 x2 x3 x4 x5 x6 x7 x8 x9 x10 x11 x12 x13 x14 x15 x16 x17 x18 x19 x20 x21 : Option D} : wpE c G (.var 22) (x0 :: x1 :: x2 :: x3 :: x4 :: x5 :: x6 :: x7 :: x8 :: x9 :: x10 :: x11 :: x12 :: x13 :: x14 :: x15 :: x16 :: x17 :: x18 :: x19 :: x20 :: x21 :: some d :: r) A Q E = Q d A := (rfl)
theorem wq_var23 {x0 x1 x2 x3 x4 x5 x6 x7 x8 x9 x10 x11 x12 x13 x14 x15 x16 x17 x18 x19 x20 x21 x22 : Option D} : wpE c G (.var 23) (x0 :: x1 :: x2 :: x3 :: x4 :: x5 :: x6 :: x7 :: x8 :: x9 :: x10 :: x11 :: x12 :: x13 :: x14 :: x15 :: x16 :: x17 :: x18 :: x19 :: x20 :: x21 :: x22 :: some d :: r) A Q E = Q d A := (rfl)

theorem wq_cst : wpE c G (.cst d) δ A Q E = Q d A := (rfl)
theorem wq_tup : wpE c G (.tup es) δ A Q E = wpEs c G es δ A (fun ds A1 => ds.length ≤ sizeLine ∧ Q (.tup ds) A1) E := (rfl)
theorem wq_lst : wpE c G (.lst es) δ A Q E = wpEs c G es δ A (fun ds A1 => ds.length ≤ sizeLine ∧ newL A1 ds Q) E := (rfl)
theorem wq_bin {k : BO} : wpE c G (.bin k a b) δ A Q E = wpE c G a δ A (fun x A1 => wpE c G b δ A1 (fun y A2 => dBin k x y A2 Q) E) E := (rfl)
theorem wq_neg : wpE c G (.neg (.cst (.int i))) δ A Q E = Q (.int (-i)) A := (rfl)
theorem wq_cmp {k : CO} : wpE c G (.cmp k a b) δ A Q E = wpE c G a δ A (fun x A1 => wpE c G b δ A1 (fun y A2 => dCmp k x y A2 Q) E) E := (rfl)
theorem wq_chn {k l : CO} {z : IE} : wpE c G (.chn k l a b z) δ A Q E = wpE c G a δ A (fun x A1 => wpE c G b δ A1 (fun y A2 => dCmp k x y A2 (bTst fun m A3 => if m = true then wpE c G z δ A3 (fun z A4 => dCmp l y z A4 Q) E else Q (.bl false) A3)) E) E := (rfl)
theorem wq_isn {neg : Bool} : wpE c G (.isn neg a) δ A Q E = wpE c G a δ A (fun x A1 => Q (.bl (if neg = true then !isNonD x else isNonD x)) A1) E := (rfl)
theorem wq_isb {neg : Bool} : wpE c G (.isb neg a b) δ A Q E = wpE c G a δ A (fun x A1 => wpE c G b δ A1 (fun y A2 => match x, y with | .bl k, .bl l => Q (.bl (if neg = true then !decide (k = l) else decide (k = l))) A2 | _, _ => False) E) E := (rfl)
theorem wq_notv : wpE c G (.notv a) δ A Q E = wpE c G a δ A (fun x A1 => dTru x A1 fun k A2 => Q (.bl (!k)) A2) E := (rfl)
theorem wq_andv : wpE c G (.andv a b) δ A Q E = wpE c G a δ A (bTst fun k A1 => if k = true then wpE c G b δ A1 Q E else Q (.bl false) A1) E := (rfl)
theorem wq_orv : wpE c G (.orv a b) δ A Q E = wpE c G a δ A (bTst fun k A1 => if k = true then Q (.bl true) A1 else wpE c G b δ A1 Q E) E := (rfl)
theorem wq_ite : wpE c G (.ite t a b) δ A Q E = wpT c G t δ A (fun k A1 => if k = true then wpE c G a δ A1 Q E else wpE c G b δ A1 Q E) E := (rfl)
theorem wq_call {f : Nat} : wpE c G (.call f es) δ A Q E = wpEs c G es δ A (fun ds A1 => c f ds A1 Q E) E := (rfl)
theorem wq_bi {k : BI} : wpE c G (.bi k es) δ A Q E = wpEs c G es δ A (fun ds A1 => dBi k ds A1 Q) E := (rfl)
theorem wq_isi {k : TyK} : wpE c G (.isi k a) δ A Q E = wpE c G a δ A (fun x A1 => match isD k A1 x with | some b => Q (.bl b) A1 | none => False) E := (rfl)
theorem wq_rgl {k : Bool} : wpE c G (.rgl k es) δ A Q E = wpEs c G es δ A (fun ds A1 => dRgl k ds A1 Q) E := (rfl)
theorem wq_ix : wpE c G (.ix a b) δ A Q E = wpE c G a δ A (fun x A1 => wpE c G b δ A1 (fun y A2 => dIx x y A2 Q) E) E := (rfl)
theorem wq_cut {lo hi : Option IE} : wpE c G (.cut a lo hi) δ A Q E = wpE c G a δ A (fun x A1 => wpO c G lo δ A1 (fun l A2 => wpO c G hi δ A2 (fun h A3 => dCut x l h A3 Q) E) E) E := (rfl)
theorem wq_rev : wpE c G (.rev a) δ A Q E = wpE c G a δ A (fun x A1 => dRev x A1 Q) E := (rfl)
theorem wq_comp {k : SrcK} {vs : List Nat} : wpE c G (.comp k es vs tg t e) δ A Q E = wpEs c G es δ A (fun ds A1 => dSrc k ds A1 fun xs g => xs.length ≤ sizeLine ∧ dComp tg g (wpT c G t) (wpE c G e) (wipeD δ vs) xs [] A1 Q) E := (rfl)
theorem wq_bm {m : BM} : wpE c G (.bm m o es) δ A Q E = wpE c G o δ A (fun x A1 => isT (tyB m) A1 x ∧ wpEs c G es δ A1 (fun ds A2 => dBm m x ds A2 Q) E) E := (rfl)
theorem wq_nil : wpEs c G [] δ A QA E = QA [] A := (rfl)
theorem wq_cons : wpEs c G (e :: es) δ A QA E = wpE c G e δ A (fun d A1 => wpEs c G es δ A1 (fun ds A2 => QA (d :: ds) A2) E) E := (rfl)
theorem wq_on : wpO c G none δ A QO E = QO none A := (rfl)
theorem wq_os : wpO c G (some e) δ A QO E = wpE c G e δ A (fun d A1 => match d with | .int i => QO (some i) A1 | _ => False) E := (rfl)
theorem wq_val : wpT c G (.val e) δ A QT E = wpE c G e δ A (fun x A1 => dTru x A1 QT) E := (rfl)
theorem wq_and : wpT c G (.and t u) δ A QT E = wpT c G t δ A (fun k A1 => if k = true then wpT c G u δ A1 QT E else QT false A1) E := (rfl)
theorem wq_or : wpT c G (.or t u) δ A QT E = wpT c G t δ A (fun k A1 => if k = true then QT true A1 else wpT c G u δ A1 QT E) E := (rfl)
theorem wq_not : wpT c G (.not t) δ A QT E = wpT c G t δ A (fun k A1 => QT (!k) A1) E := (rfl)
theorem wq_yes : wpT c G .yes δ A QT E = QT true A := (rfl)
theorem wq_snil : wpSs c G [] P δ A = P.nx δ A := (rfl)
theorem wq_scons : wpSs c G (s :: ss) P δ A = wpS c G s ⟨fun δ' A' => wpSs c G ss P δ' A', P.rt, P.ct, P.ex⟩ δ A := (rfl)
theorem wq_set {i : Nat} : wpS c G (.set i e) P δ A = wpE c G e δ A (fun x A1 => P.nx (δ.set i (some x)) A1) (fun x A' => P.ex x δ A') := (rfl)
theorem wq_tset : wpS c G (.tset tg e) P δ A = wpE c G e δ A (fun x A1 => gAsg tg x δ A1 fun δ' => P.nx δ' A1) (fun x A' => P.ex x δ A') := (rfl)
theorem wq_par {is : List Nat} : wpS c G (.par is es) P δ A = wpEs c G es δ A (fun ds A1 => ds.length = is.length ∧ P.nx (setAll is ds δ) A1) (fun x A' => P.ex x δ A') := (rfl)
theorem wq_sub : wpS c G (.sub o b e) P δ A = wpE c G e δ A (fun v A1 => wpE c G o δ A1 (fun x A2 => wpE c G b δ A2 (fun y A3 => dSub x y v A3 fun A4 => P.nx δ A4) (fun x A' => P.ex x δ A')) (fun x A' => P.ex x δ A')) (fun x A' => P.ex x δ A') := (rfl)
theorem wq_expr : wpS c G (.expr e) P δ A = wpE c G e δ A (fun _ A1 => P.nx δ A1) (fun x A' => P.ex x δ A') := (rfl)
theorem wq_if : wpS c G (.iff t body bs) P δ A = wpT c G t δ A (fun k A1 => if k = true then wpSs c G body P δ A1 else wpSs c G bs P δ A1) (fun x A' => P.ex x δ A') := (rfl)
theorem wq_for {k : SrcK} : wpS c G (.for k es tg body) P δ A = wpEs c G es δ A (fun ds A1 => dSrc k ds A1 fun xs g => dFor tg g (wpSs c G body) xs P δ A1) (fun x A' => P.ex x δ A') := (rfl)
theorem wq_whil : wpS c G (.whil t body) P δ A = ∃ n, dWhile (wpT c G t) (wpSs c G body) n P δ A := (rfl)
theorem wq_ret : wpS c G (.ret e) P δ A = wpE c G e δ A P.rt (fun x A' => P.ex x δ A') := (rfl)
theorem wq_pass : wpS c G .pass P δ A = P.nx δ A := (rfl)
theorem wq_cont : wpS c G .cont P δ A = P.ct δ A := (rfl)
end
section
variable {A : AH} {Q : QE} {QT : Bool → AH → Prop} {i j : Int} {a b : Addr} {xs ys : List D} {x d : D} {k l : Bool} {δ : DSt} {QG : DSt → Prop} {Qs : List D → (AH → Prop) → Prop} {z w : Str}
theorem seq_tup : seqD A (.tup xs) = some xs := (rfl)
theorem seq_rol : seqD A (.rol xs) = some xs := (rfl)
theorem seq_ref (h : A a = some (.lst xs)) : seqD A (.ref a) = some xs := by simp only [seqD, h]
theorem x_addI : dBin .add (.int i) (.int j) A Q = Q (.int (i + j)) A := (rfl)
theorem x_addT : dBin .add (.tup xs) (.tup ys) A Q = (xs.length + ys.length ≤ sizeLine ∧ Q (.tup (xs ++ ys)) A) := (rfl)
theorem x_addL (h : A a = some (.lst xs)) (h' : A b = some (.lst ys)) : dBin .add (.ref a) (.ref b) A Q = (xs.length + ys.length ≤ sizeLine ∧ newL A (xs ++ ys) Q) := by simp only [dBin, h, h']
theorem x_addS : dBin .add (.str z) (.str w) A Q = (z.length + w.length ≤ sizeLine ∧ Q (.str (z ++ w)) A) := (rfl)
theorem x_sub : dBin .sub (.int i) (.int j) A Q = Q (.int (i - j)) A := (rfl)
theorem x_mul : dBin .mul (.int i) (.int j) A Q = (CMul i j ∧ Q (.int (i * j)) A) := (rfl)
theorem x_mulL (h : A a = some (.lst xs)) : dBin .mul (.ref a) (.int i) A Q = ((-(2 ^ 63) ≤ i ∧ i < 2 ^ 63) ∧ xs.length * i.toNat ≤ sizeLine ∧ newL A (List.replicate i.toNat xs).flatten Q) := by simp only [dBin, h]
theorem x_fdiv : dBin .fdiv (.int i) (.int j) A Q = (CDiv i j ∧ Q (.int (i / j)) A) := (rfl)
theorem x_mod : dBin .mod (.int i) (.int j) A Q = (0 < j ∧ Q (.int (i % j)) A) := (rfl)
theorem x_lt : dCmp .lt (.int i) (.int j) A Q = Q (.bl (decide (i < j))) A := (rfl)
theorem x_le : dCmp .le (.int i) (.int j) A Q = Q (.bl (decide (i ≤ j))) A := (rfl)
theorem x_gt : dCmp .gt (.int i) (.int j) A Q = Q (.bl (decide (j < i))) A := (rfl)
theorem x_ge : dCmp .ge (.int i) (.int j) A Q = Q (.bl (decide (j ≤ i))) A := (rfl)
theorem x_eqI : dCmp .eq (.int i) (.int j) A Q = Q (.bl (decide (i = j))) A := by
  show Q (.bl (i == j)) A = _
  rw [Bool.beq_eq_decide_eq]
theorem x_neI : dCmp .ne (.int i) (.int j) A Q = Q (.bl (!decide (i = j))) A := by
  show Q (.bl (!(i == j))) A = _
  rw [Bool.beq_eq_decide_eq]
theorem x_eq {p q : PyData} (h : pd A 6 x = some p) (h' : pd A 6 d = some q) : dCmp .eq x d A Q = Q (.bl (PyData.eqv p q)) A := by simp only [dCmp, h, h']
theorem x_ne {p q : PyData} (h : pd A 6 x = some p) (h' : pd A 6 d = some q) : dCmp .ne x d A Q = Q (.bl (!PyData.eqv p q)) A := by simp only [dCmp, h, h']
theorem x_bTst : bTst QT (.bl k) A = QT k A := (rfl)
theorem x_truB : dTru (.bl k) A QT = QT k A := (rfl)
theorem x_truN : dTru .non A QT = QT false A := (rfl)
theorem x_truI : dTru (.int i) A QT = QT (i != 0) A := (rfl)
theorem x_truT : dTru (.tup xs) A QT = QT (!xs.isEmpty) A := (rfl)
theorem x_truR : dTru (.rol xs) A QT = QT (!xs.isEmpty) A := (rfl)
theorem x_truL (h : A a = some (.lst xs)) : dTru (.ref a) A QT = QT (!xs.isEmpty) A := by simp only [dTru, h]
theorem x_lenT : dBi .len [.tup xs] A Q = Q (.int xs.length) A := (rfl)
theorem x_lenR : dBi .len [.rol xs] A Q = Q (.int xs.length) A := (rfl)
theorem x_lenL (h : A a = some (.lst xs)) : dBi .len [.ref a] A Q = Q (.int xs.length) A := by simp only [dBi, seq_ref h]
theorem x_tupT : dBi .tuple [.tup xs] A Q = Q (.tup xs) A := (rfl)
theorem x_tupL (h : A a = some (.lst xs)) : dBi .tuple [.ref a] A Q = Q (.tup xs) A := by simp only [dBi, seq_ref h]
theorem x_lstT : dBi .list [.tup xs] A Q = newL A xs Q := (rfl)
theorem x_lstL (h : A a = some (.lst xs)) : dBi .list [.ref a] A Q = newL A xs Q := by simp only [dBi, seq_ref h]
theorem x_min2 : dBi .min2 [.int i, .int j] A Q = Q (.int (if j < i then j else i)) A := (rfl)
theorem x_max2 : dBi .max2 [.int i, .int j] A Q = Q (.int (if j > i then j else i)) A := (rfl)
theorem x_intB : dBi .int1 [.bl k] A Q = Q (.int (if k then 1 else 0)) A := (rfl)
theorem x_intI : dBi .int1 [.int i] A Q = Q (.int i) A := (rfl)
theorem alls_ints (ns : List Int) : alls int1 (ns.map .int) = some ns := by
  induction ns with
  | nil => rfl
  | cons n r ih => simp only [List.map_cons, alls, int1, ih]
theorem alls_bls (ns : List Bool) : alls bl1 (ns.map .bl) = some ns := by
  induction ns with
  | nil => rfl
  | cons n r ih => simp only [List.map_cons, alls, bl1, ih]
theorem alls_prs (ns : List (Int × Int)) : alls pr1 (ns.map prD) = some ns := by
  induction ns with
  | nil => rfl
  | cons n r ih => simp only [List.map_cons, alls, prD, pr1, ih] <;> rfl
theorem x_sum {ns : List Int} (h : A a = some (.lst (ns.map .int))) : dBi .sum [.ref a] A Q = Q (.int ns.sum) A := by simp only [dBi, lstD, h, alls_ints]
theorem x_all {ns : List Bool} (h : A a = some (.lst (ns.map .bl))) : dBi .all [.ref a] A Q = Q (.bl (ns.all id)) A := by simp only [dBi, lstD, h, alls_bls]
theorem x_any {ns : List Bool} (h : A a = some (.lst (ns.map .bl))) : dBi .any [.ref a] A Q = Q (.bl (ns.any id)) A := by simp only [dBi, lstD, h, alls_bls]
theorem sort_prs {ps : List (Int × Int)} (h : seqD A x = some (ps.map prD)) : dBi .sorted [x] A Q = newL A ((sortP ps).map prD) Q := by
  show dSort x A Q = _
  unfold dSort
  rw [h]
  cases ps with
  | nil => simp [alls, sortI, sortP]
  | cons p r =>
    simp only [List.map_cons]
    rw [show alls int1 (prD p :: List.map prD r) = none from rfl]
    simp only
    rw [← List.map_cons, alls_prs]
theorem sort_ints {ns : List Int} (h : seqD A x = some (ns.map .int)) : dBi .sorted [x] A Q = newL A ((sortI ns).map .int) Q := by
  show dSort x A Q = _
  unfold dSort
  rw [h]
  simp only [alls_ints]
theorem x_ixT {d : D} (h : L2.atI xs i = some d) : dIx (.tup xs) (.int i) A Q = Q d A := by simp only [dIx, seq_tup, h]
theorem x_ixR {d : D} (h : L2.atI xs i = some d) : dIx (.rol xs) (.int i) A Q = Q d A := by simp only [dIx, seq_rol, h]
theorem x_ixL {d : D} (h : A a = some (.lst xs)) (h' : L2.atI xs i = some d) : dIx (.ref a) (.int i) A Q = Q d A := by simp only [dIx, seq_ref h, h']
theorem x_cutT {lo hi : Option Int} : dCut (.tup xs) lo hi A Q = Q (.tup (cutL xs lo hi)) A := (rfl)
theorem x_cutL {lo hi : Option Int} (h : A a = some (.lst xs)) : dCut (.ref a) lo hi A Q = newL A (cutL xs lo hi) Q := by simp only [dCut, h]
theorem x_revT : dRev (.tup xs) A Q = Q (.tup xs.reverse) A := (rfl)
theorem x_revL (h : A a = some (.lst xs)) : dRev (.ref a) A Q = newL A xs.reverse Q := by simp only [dRev, h]
theorem x_app (h : A a = some (.lst xs)) : dBm .append (.ref a) [d] A Q = (xs.length < sizeLine ∧ Q .non (up A a (.lst (xs ++ [d])))) := by simp only [dBm, h]
theorem x_ext (h : A a = some (.lst xs)) (h' : A b = some (.lst ys)) : dBm .extend (.ref a) [.ref b] A Q = (xs.length + ys.length ≤ sizeLine ∧ Q .non (up A a (.lst (xs ++ ys)))) := by simp only [dBm, h, h']
theorem x_isL (h : A a = some (.lst xs)) : isT .list A (.ref a) = True := by simp only [isT, h]
theorem ty_app : tyB .append = .list := (rfl)
theorem ty_ext : tyB .extend = .list := (rfl)
theorem ty_pop : tyB .pop = .list := (rfl)
theorem ty_popi : tyB .popi = .list := (rfl)
theorem x_srcT : dSrc .seq [.tup xs] A Qs = Qs xs (fun _ => True) := (rfl)
theorem x_srcR : dSrc .seq [.rol xs] A Qs = Qs xs (fun _ => True) := (rfl)
theorem x_srcL (h : A a = some (.lst xs)) : dSrc .seq [.ref a] A Qs = Qs xs (fun A' => A' a = some (.lst xs)) := by simp only [dSrc, h]
theorem x_rng1 : dSrc .rng [.int j] A Qs = ((-(2 ^ 62) ≤ (0 : Int) ∧ (0 : Int) < 2 ^ 62 ∧ -(2 ^ 62) ≤ j ∧ j < 2 ^ 62) ∧ Qs (rgD 0 j) (fun _ => True)) := (rfl)
theorem x_rng2 : dSrc .rng [.int i, .int j] A Qs = ((-(2 ^ 62) ≤ i ∧ i < 2 ^ 62 ∧ -(2 ^ 62) ≤ j ∧ j < 2 ^ 62) ∧ Qs (rgD i j) (fun _ => True)) := (rfl)
theorem x_zip : dSrc .zip [.tup xs, .tup ys] A Qs = Qs (List.zipWith (fun x y => .tup [x, y]) xs ys) (fun _ => True) := (rfl)
theorem x_rgl2 {t : Bool} : dRgl t [.int i, .int j] A Q = (RgOk i j ∧ (if t = true then Q (.tup (rgD i j)) A else newL A (rgD i j) Q)) := (rfl)
theorem x_rgl1 {t : Bool} : dRgl t [.int j] A Q = (RgOk 0 j ∧ (if t = true then Q (.tup (rgD 0 j)) A else newL A (rgD 0 j) Q)) := (rfl)
theorem g_nm {m : Nat} : gAsg (.nm m) x δ A QG = QG (δ.set m (some x)) := by unfold gAsg; rfl
theorem g_tp {ts : List Tg} : gAsg (.tp ts) (.tup xs) δ A QG = gAsgs ts xs δ A QG := by unfold gAsg; rfl
theorem g_tpL {ts : List Tg} (h : A a = some (.lst xs)) : gAsg (.tp ts) (.ref a) δ A QG = gAsgs ts xs δ A QG := by unfold gAsg; rw [seq_ref h]
theorem g_cons {t : Tg} {ts : List Tg} : gAsgs (t :: ts) (x :: xs) δ A QG = gAsg t x δ A fun δ' => gAsgs ts xs δ' A QG := by rw [gAsgs]
theorem g_nil : gAsgs [] [] δ A QG = QG δ := by unfold gAsgs; simp
theorem for_nil {tg : Tg} {g : AH → Prop} {body : WS} {P : Pst} : dFor tg g body [] P δ A = (g A ∧ P.nx δ A) := (rfl)
theorem for_cons {tg : Tg} {g : AH → Prop} {body : WS} {P : Pst} : dFor tg g body (x :: xs) P δ A = (g A ∧ gAsg tg x δ A fun δ' => body ⟨fun δ2 A2 => dFor tg g body xs P δ2 A2, P.rt, fun δ2 A2 => dFor tg g body xs P δ2 A2, P.ex⟩ δ' A) := (rfl)
theorem com_nil {tg : Tg} {g : AH → Prop} {t : WT} {e : WE} {acc : List D} : dComp tg g t e δ [] acc A Q = (g A ∧ newL A acc Q) := (rfl)
theorem com_cons {tg : Tg} {g : AH → Prop} {t : WT} {e : WE} {acc : List D} : dComp tg g t e δ (x :: xs) acc A Q = (g A ∧ gAsg tg x δ A fun δ' => t δ' A (fun b A1 => if b = true then e δ' A1 (fun y A2 => dComp tg g t e δ xs (acc ++ [y]) A2 Q) (fun _ _ => False) else dComp tg g t e δ xs acc A1 Q) (fun _ _ => False)) := (rfl)
theorem up_free {p q : Addr} {o : AO} : up A p o q = none ↔ q ≠ p ∧ A q = none := by
  unfold up
  by_cases h : q = p
  · simp [h]
  · simp [h]
theorem len2_ok : (2 : Nat) ≤ sizeLine := by decide
theorem len0_ok : (0 : Nat) ≤ sizeLine := by decide
/-- a new list is taken -/
theorem newL_in {R : QE} (h : ∀ p, A p = none → R (.ref p) (up A p (.lst xs))) : newL A xs R := h
end
/-- a comprehension without a test whose element is a function of the item, and leaves the heap -/
theorem comp_map {tg : Tg} {g : AH → Prop} {e : WE} {c : CallT} {G : Gm} {δ : DSt} {A : AH} {Q : QE} {f : D → D} (hg : g A) : ∀ {xs acc : List D}, (∀ x ∈ xs, ∀ R : QE, R (f x) A → gAsg tg x δ A fun δ' => e δ' A R fun _ _ => False) → newL A (acc ++ xs.map f) Q → dComp tg g (wpT c G .yes) e δ xs acc A Q
  | [], acc, _, h => by rw [List.map_nil, List.append_nil] at h; exact ⟨hg, h⟩
  | x :: xs, acc, he, h => by
    refine ⟨hg, ?_⟩
    have h1 := he x List.mem_cons_self (fun y A2 => dComp tg g (wpT c G .yes) e δ xs (acc ++ [y]) A2 Q) (comp_map hg (fun y hy => he y (List.mem_cons_of_mem _ hy)) (by
      rw [List.append_assoc]; exact h))
    refine gAsg_mono _ _ _ _ _ _ (fun δ' q => ?_) h1
    rw [wq_yes, if_pos rfl]
    exact q
end DL

set_option Elab.async false
set_option linter.all false
set_option maxRecDepth 100000
/-! the program's defs: what they come to -/
namespace DP
open DL PySem
open L2 hiding prD
local macro_rules | `(tactic| walk_at "wp") => `(tactic| try simp only [startD, List.map_cons, List.map_nil, List.length_cons, List.length_nil, Nat.zero_add, Nat.reduceAdd, Nat.reduceSub, List.replicate_succ, List.replicate_zero, List.cons_append, List.nil_append, List.set_cons_zero, List.set_cons_succ, setAll, wipeD,
  wq_var0, wq_var1, wq_var2, wq_var3, wq_var4, wq_var5, wq_var6, wq_var7, wq_var8, wq_var9, wq_var10, wq_var11, wq_var12, wq_var13, wq_var14, wq_var15, wq_cst, wq_tup, wq_lst, wq_bin, wq_neg, wq_cmp, wq_chn, wq_isn, wq_isb, wq_notv, wq_andv, wq_orv, wq_ite, wq_call, wq_bi, wq_isi, wq_rgl, wq_ix, wq_cut, wq_rev, wq_comp, wq_bm, wq_nil, wq_cons, wq_on, wq_os, wq_val, wq_and, wq_or, wq_not, wq_yes, wq_snil, wq_scons, wq_set, wq_tset, wq_par, wq_sub, wq_expr, wq_if, wq_for, wq_whil, wq_ret, wq_pass, wq_cont, end_rt, end_nx,
  x_addI, x_addT, x_addS, x_sub, x_mul, x_fdiv, x_mod, x_lt, x_le, x_gt, x_ge, x_eqI, x_neI, x_bTst, x_truB, x_truN, x_truI, x_truT, x_truR, x_lenT, x_lenR, x_tupT, x_lstT, x_min2, x_max2, x_intB, x_intI, x_cutT, x_revT, x_srcT, x_srcR, x_rng1, x_rng2, x_zip, x_rgl1, x_rgl2, g_nm, g_tp, g_cons, g_nil, ty_app, ty_ext, ty_pop, ty_popi, if_true, if_false, Bool.false_eq_true, Bool.true_eq_false, Bool.not_true, Bool.not_false, len2_ok, len0_ok, true_and, isNonD])
abbrev prs (l : List (Int × Int)) : List D := l.map prD
abbrev spd (l : List (Int × Int)) : D := .tup (l.map prD)
theorem prD_eq (p : Int × Int) : prD p = .tup [.int p.1, .int p.2] := rfl
theorem atI0 {α : Type} (x : α) (r : List α) : L2.atI (x :: r) 0 = some x := atI_nat (j := 0) rfl
theorem atI1 {α : Type} (x y : α) (r : List α) : L2.atI (x :: y :: r) 1 = some y := atI_nat (j := 1) rfl
theorem ixN_last (n : Nat) : ixN (n + 1) (-1) = some n := by
  unfold ixN
  rw [if_neg (by decide), if_pos (by omega)]
  congr 1
  omega
theorem set_last {α : Type} (l : List α) (a b : α) : (l ++ [a]).set l.length b = l ++ [b] := by
  rw [List.set_append_right _ _ (Nat.le_refl _), Nat.sub_self]; rfl
theorem dSub_last {A : AH} {a : Addr} {l : List D} {x v : D} {Q : AH → Prop} (h : A a = some (.lst (l ++ [x]))) : dSub (.ref a) (.int (-1)) v A Q = Q (up A a (.lst (l ++ [v]))) := by
  simp only [dSub, h, List.length_append, List.length_singleton, ixN_last, set_last]
theorem isEmpty_snoc {α : Type} (l : List α) (a : α) : (l ++ [a]).isEmpty = false := by cases l <;> rfl
theorem nil_or_snoc {α : Type} (l : List α) : l = [] ∨ ∃ i a, l = i ++ [a] := by
  rcases List.eq_nil_or_concat l with h | ⟨i, a, h⟩
  · exact .inl h
  · exact .inr ⟨i, a, by rw [h, List.concat_eq_append]⟩
/-! ### spread_of -/
def mg1 (acc : List (Int × Int)) (p : Int × Int) : List (Int × Int) := match acc.getLast? with
  | some l => if p.1 ≤ l.2 then acc.dropLast ++ [(l.1, if p.2 > l.2 then p.2 else l.2)] else acc ++ [p]
  | none => [p]
def spreadOf (xs : List (Int × Int)) : List (Int × Int) := (sortP xs).foldl mg1 []
theorem mg1_nil (p : Int × Int) : mg1 [] p = [p] := rfl
theorem mg1_snoc (i : List (Int × Int)) (l p : Int × Int) : mg1 (i ++ [l]) p = if p.1 ≤ l.2 then i ++ [(l.1, if p.2 > l.2 then p.2 else l.2)] else i ++ [l] ++ [p] := by
  unfold mg1
  rw [List.getLast?_append]
  simp
theorem mg1_len (acc : List (Int × Int)) (p : Int × Int) : (mg1 acc p).length ≤ acc.length + 1 := by
  rcases nil_or_snoc acc with rfl | ⟨i, l, rfl⟩
  · exact Nat.le_refl _
  · rw [mg1_snoc]; split <;> simp
theorem spread_of_loop {c : CallT} {G : Gm} {p q : Addr} {x0 : Option D} {full : List D} {P : Pst} (npq : q ≠ p) : ∀ (rest acc : List (Int × Int)) (A : AH) (d2 d3 : Option D), A p = some (.lst (prs acc)) → A q = some (.lst full) → acc.length + rest.length < sizeLine →
    (∀ d2 d3, P.nx [x0, some (.ref p), d2, d3] (up A p (.lst (prs (rest.foldl mg1 acc))))) → dFor (.tp [.nm 2, .nm 3]) (fun A' => A' q = some (.lst full)) (wpSs c G IR.spread_of_b1) (prs rest) P [x0, some (.ref p), d2, d3] A
  | [], acc, A, d2, d3, hp, hq, hz, h => by
    have h := h d2 d3
    rw [List.foldl_nil, up_id hp] at h
    exact ⟨hq, h⟩
  | y :: rest, acc, A, d2, d3, hp, hq, hz, h => by
    rw [prs, List.map_cons, for_cons, prD_eq]
    refine ⟨hq, ?_⟩
    have ih := fun acc' (hz' : acc'.length + rest.length < sizeLine) (h' : ∀ d2 d3, P.nx [x0, some (.ref p), d2, d3] (up (up A p (.lst (prs acc'))) p (.lst (prs (rest.foldl mg1 acc'))))) => spread_of_loop (c := c) (G := G) npq rest acc' (up A p (.lst (prs acc'))) (some (.int y.1)) (some (.int y.2)) up_same (by rw [up_ne npq]; exact hq) hz' h'
    have ih := ih (mg1 acc y) (by have := mg1_len acc y; rw [List.length_cons] at hz; omega) (by intro d2 d3; rw [up_up]; exact h d2 d3)
    unfold IR.spread_of_b1
    walk_at "wp"
    rw [x_truL hp]
    rw [List.length_cons] at hz
    rcases nil_or_snoc acc with rfl | ⟨i, l, rfl⟩
    · walk_at "wp"
      simp only [List.map_nil, List.isEmpty_nil, Bool.not_true, Bool.false_eq_true, if_false, x_isL hp, x_app hp, true_and, List.length_nil]
      exact ⟨by decide, ih⟩
    · rw [prs, List.map_append, List.map_singleton] at hp
      have e0 : L2.atI (List.map prD i ++ [prD l]) (-1) = some (prD l) := atI_last _ _
      rw [mg1_snoc] at ih
      simp only [List.map_append, List.map_singleton, isEmpty_snoc, Bool.not_false, if_true, x_ixL hp e0, prD_eq, x_ixT (atI1 _ _ _), x_ixT (atI0 _ _), x_le, x_truB, decide_eq_true_eq, wq_var3, wq_nil, wq_cons, x_max2]
      split
      · next hle =>
        rw [if_pos hle] at ih
        rw [dSub_last hp]
        simp only [prs, List.map_append, List.map_singleton, prD_eq] at ih
        exact ih
      · next hle =>
        rw [if_neg hle] at ih
        simp only [x_isL hp, x_app hp, true_and]
        refine ⟨?_, ?_⟩
        · rw [List.length_append, List.length_map, List.length_singleton]
          rw [List.length_append, List.length_singleton] at hz
          omega
        · simp only [prs, List.map_append, List.map_singleton, prD_eq] at ih
          exact ih
theorem sub_up2 {A : AH} {p q : Addr} {o u : AO} (np : A p = none) (nq : up A p o q = none) : Sub A (up (up A p o) q u) := (Sub.new np).up (up_free.mp nq).2
theorem fold_len (f : List (Int × Int) → Int × Int → List (Int × Int)) (h : ∀ a p, (f a p).length ≤ a.length + 1) : ∀ (l a : List (Int × Int)), (l.foldl f a).length ≤ a.length + l.length
  | [], a => Nat.le_refl _
  | x :: l, a => by
    rw [List.foldl_cons, List.length_cons]
    have := fold_len f h l (f a x)
    have := h a x
    omega
theorem spreadOf_len (xs : List (Int × Int)) : (spreadOf xs).length ≤ xs.length := by
  have := fold_len mg1 mg1_len (sortP xs) []
  rw [List.length_nil, (sortP_perm xs).length_eq] at this
  unfold spreadOf
  omega
/-- spread_of, of a tuple or a list of pairs -/
theorem spread_of_any {G : Gm} (hG : G.fn 4 = some ⟨1, 4, IR.spread_of⟩) (n : Nat) {x : D} (xs : List (Int × Int)) {A : AH} {Q : QE} {E : XQ} (hx : ∀ A', Sub A A' → seqD A' x = some (prs xs)) (hz : xs.length < 100000) (h : Q (spd (spreadOf xs)) A) : callN G (n + 1) 4 [x] A Q E := by
  refine callN_mk hG rfl ?_
  unfold IR.spread_of
  walk_at "wp"
  intro p np
  have sp := sort_prs (Q := fun d A1 => dSrc .seq [d] A1 fun xs_1 g => dFor (.tp [.nm 2, .nm 3]) g (wpSs (callN G n) G IR.spread_of_b1) xs_1 ⟨fun δ' A' => wpE (callN G n) G (.var 1) δ' A' (fun d A1 => dBi .tuple [d] A1 (endP Q E).rt) (fun x A' => (endP Q E).ex x δ' A'), (endP Q E).rt, (endP Q E).ct, (endP Q E).ex⟩ [some x, some (.ref p), none, none] A1) (ps := xs) (hx (up A p (.lst [])) (Sub.new np))
  refine sp.mpr ?_
  intro q nq
  rw [x_srcL up_same]
  have hqp := (up_free.mp nq).1
  refine spread_of_loop hqp (sortP xs) [] _ none none ?_ up_same ?_ fun d2 d3 => ?_
  · rw [up_ne (Ne.symm hqp)]; exact up_same
  · rw [(sortP_perm xs).length_eq, List.length_nil]
    show 0 + xs.length < 2 ^ 24
    omega
  · walk_at "wp"
    rw [x_tupL up_same]
    refine ret_at ?_ h
    intro a o e
    have n1 : a ≠ p := ne_up e np
    have n2 : a ≠ q := ne_up e (up_free.mp nq).2
    rw [up_ne n1, up_ne n2, up_ne n1]; exact e
theorem spread_of_tup {G : Gm} (hG : G.fn 4 = some ⟨1, 4, IR.spread_of⟩) (n : Nat) (xs : List (Int × Int)) {A : AH} {Q : QE} {E : XQ} (hz : xs.length < 100000) (h : Q (spd (spreadOf xs)) A) : callN G (n + 1) 4 [.tup (prs xs)] A Q E :=
  spread_of_any hG n xs (fun _ _ => rfl) hz h
theorem spread_of_lst {G : Gm} (hG : G.fn 4 = some ⟨1, 4, IR.spread_of⟩) (n : Nat) (xs : List (Int × Int)) {a : Addr} {A : AH} {Q : QE} {E : XQ} (ha : A a = some (.lst (prs xs))) (hz : xs.length < 100000) (h : Q (spd (spreadOf xs)) A) : callN G (n + 1) 4 [.ref a] A Q E :=
  spread_of_any hG n xs (fun _ s => seq_ref (s _ _ ha)) hz h
/-! ### spread_by -/
theorem spread_by_tup {G : Gm} (hG : G.fn 5 = some ⟨1, 2, IR.spread_by⟩) (hG4 : G.fn 4 = some ⟨1, 4, IR.spread_of⟩) (n : Nat) (ks : List Int) {A : AH} {Q : QE} {E : XQ} (hz : ks.length < 100000) (h : Q (spd (spreadOf (ks.map fun k => (k, k + 1)))) A) : callN G (n + 2) 5 [.tup (ks.map .int)] A Q E := by
  refine callN_mk hG rfl ?_
  unfold IR.spread_by
  walk_at "wp"
  refine ⟨by rw [List.length_map]; show ks.length ≤ 2 ^ 24; omega, ?_⟩
  refine comp_map (f := fun d => match d with | .int k => prD (k, k + 1) | _ => .non) True.intro (fun x hx R hr => ?_) ?_
  · obtain ⟨k, _, rfl⟩ := List.mem_map.mp hx
    walk_at "wp"
    exact hr
  · intro p np
    rw [List.nil_append, List.map_map]
    have e : (ks.map ((fun d => match d with | .int k => prD (k, k + 1) | _ => .non) ∘ D.int)) = prs (ks.map fun k => (k, k + 1)) := by
      rw [prs, List.map_map]; rfl
    rw [e]
    refine spread_of_lst hG4 n _ up_same (by rw [List.length_map]; exact hz) ?_
    exact ret_at (Sub.new np) h
/-! ### has, size, keys_of -/
def hasD (l : List (Int × Int)) (k : Int) : Bool := l.any fun p => decide (p.1 ≤ k) && decide (k < p.2)
def sizeOf' (l : List (Int × Int)) : Int := (l.map fun p => p.2 - p.1).sum
def rgI (i j : Int) : List Int := (List.range (j - i).toNat).map fun k => i + (k : Nat)
def keysOf (l : List (Int × Int)) : List Int := l.flatMap fun p => rgI p.1 p.2
theorem rgD_eq (i j : Int) : rgD i j = (rgI i j).map .int := by unfold rgD rgI; rw [List.map_map]; rfl
theorem has_tup {G : Gm} (hG : G.fn 6 = some ⟨2, 4, IR.has⟩) (n : Nat) (l : List (Int × Int)) (k : Int) {A : AH} {Q : QE} {E : XQ} (hz : l.length < 100000) (h : Q (.bl (hasD l k)) A) : callN G (n + 1) 6 [spd l, .int k] A Q E := by
  refine callN_mk hG rfl ?_
  unfold IR.has
  walk_at "wp"
  refine ⟨by rw [List.length_map]; show l.length ≤ 2 ^ 24; omega, ?_⟩
  refine comp_map (f := fun d => match d with | .tup [.int a, .int b] => .bl (decide (a ≤ k) && decide (k < b)) | _ => .non) True.intro (fun x hx R hr => ?_) ?_
  · obtain ⟨p, _, rfl⟩ := List.mem_map.mp hx
    rw [prD_eq] at hr ⊢
    walk_at "wp"
    have hr : R (.bl (decide (p.1 ≤ k) && decide (k < p.2))) A := hr
    cases e : decide (p.1 ≤ k) with
    | true => rw [if_pos rfl]; rw [e, Bool.true_and] at hr; exact hr
    | false => rw [if_neg Bool.false_ne_true]; rw [e, Bool.false_and] at hr; exact hr
  · intro p np
    rw [List.nil_append, List.map_map]
    have e : (l.map ((fun d => match d with | .tup [.int a, .int b] => .bl (decide (a ≤ k) && decide (k < b)) | _ => .non) ∘ prD)) = (l.map fun p => decide (p.1 ≤ k) && decide (k < p.2)).map D.bl := by
      rw [List.map_map]; rfl
    rw [e, x_any up_same]
    refine ret_at (Sub.new np) ?_
    rw [List.any_map]
    exact h
theorem size_tup {G : Gm} (hG : G.fn 7 = some ⟨1, 3, IR.size⟩) (n : Nat) (l : List (Int × Int)) {A : AH} {Q : QE} {E : XQ} (hz : l.length < 100000) (h : Q (.int (sizeOf' l)) A) : callN G (n + 1) 7 [spd l] A Q E := by
  refine callN_mk hG rfl ?_
  unfold IR.size
  walk_at "wp"
  refine ⟨by rw [List.length_map]; show l.length ≤ 2 ^ 24; omega, ?_⟩
  refine comp_map (f := fun d => match d with | .tup [.int a, .int b] => .int (b - a) | _ => .non) True.intro (fun x hx R hr => ?_) ?_
  · obtain ⟨p, _, rfl⟩ := List.mem_map.mp hx
    rw [prD_eq] at hr ⊢
    walk_at "wp"
    exact hr
  · intro p np
    rw [List.nil_append, List.map_map]
    have e : (l.map ((fun d => match d with | .tup [.int a, .int b] => .int (b - a) | _ => .non) ∘ prD)) = (l.map fun p => p.2 - p.1).map D.int := by
      rw [List.map_map]; rfl
    rw [e, x_sum up_same]
    exact ret_at (Sub.new np) h
end DP

set_option Elab.async false
set_option linter.all false
/-! plain laws of spreads -/
namespace DP
open DL PySem
open L2 hiding prD
abbrev PL := List (Int × Int)
def okF : Int → PL → Prop
  | _, [] => True
  | lo, p :: r => lo ≤ p.1 ∧ p.1 < p.2 ∧ p.2 ≤ 100 ∧ okF (p.2 + 1) r
def endF : Int → PL → Int
  | lo, [] => lo
  | _, p :: r => endF (p.2 + 1) r
theorem hasD_nil (k : Int) : hasD [] k = false := rfl
theorem hasD_cons (p : Int × Int) (r : PL) (k : Int) : hasD (p :: r) k = (decide (p.1 ≤ k) && decide (k < p.2) || hasD r k) := rfl
theorem hasD_app (l m : PL) (k : Int) : hasD (l ++ m) k = (hasD l k || hasD m k) := List.any_append
theorem hasD_consT {p : Int × Int} {r : PL} {k : Int} : hasD (p :: r) k = true ↔ (p.1 ≤ k ∧ k < p.2) ∨ hasD r k = true := by
  rw [hasD_cons]; simp
theorem hasD_mem {l : PL} {k : Int} : hasD l k = true ↔ ∃ p ∈ l, p.1 ≤ k ∧ k < p.2 := by
  unfold hasD; simp [List.any_eq_true]
theorem hasD_perm {l m : PL} (h : l.Perm m) (k : Int) : hasD l k = hasD m k := by
  unfold hasD
  rw [Bool.eq_iff_iff]
  simp only [List.any_eq_true]
  exact ⟨fun ⟨p, a, b⟩ => ⟨p, h.mem_iff.mp a, b⟩, fun ⟨p, a, b⟩ => ⟨p, h.mem_iff.mpr a, b⟩⟩
theorem okF_mono {lo lo' : Int} (h : lo' ≤ lo) : ∀ {l : PL}, okF lo l → okF lo' l
  | [], _ => True.intro
  | _ :: _, ⟨a, b, c, d⟩ => ⟨by omega, b, c, d⟩
theorem okF_low : ∀ {l : PL} {lo k : Int}, okF lo l → hasD l k = true → lo ≤ k
  | [], _, _, _, h => by cases h
  | p :: r, lo, k, ⟨a, b, c, d⟩, h => by
    rcases hasD_consT.mp h with h | h
    · omega
    · have := okF_low d h; omega
theorem okF_top : ∀ {l : PL} {lo k : Int}, okF lo l → hasD l k = true → k < 100
  | [], _, _, _, h => by cases h
  | p :: r, lo, k, ⟨a, b, c, d⟩, h => by
    rcases hasD_consT.mp h with h | h
    · omega
    · exact okF_top d h
theorem okF_le : ∀ {l : PL} {lo : Int}, okF lo l → lo ≤ endF lo l
  | [], _, _ => Int.le_refl _
  | p :: r, lo, ⟨a, b, c, d⟩ => by
    show lo ≤ endF (p.2 + 1) r
    have := okF_le d; omega
theorem okF_high : ∀ {l : PL} {lo k : Int}, okF lo l → hasD l k = true → k + 1 < endF lo l
  | [], _, _, _, h => by cases h
  | p :: r, lo, k, ⟨a, b, c, d⟩, h => by
    show k + 1 < endF (p.2 + 1) r
    rcases hasD_consT.mp h with h | h
    · have := okF_le d; omega
    · exact okF_high d h
theorem okF_app : ∀ {l m : PL} {lo : Int}, okF lo (l ++ m) ↔ okF lo l ∧ okF (endF lo l) m
  | [], m, lo => by simp [okF, endF]
  | p :: r, m, lo => by
    show (lo ≤ p.1 ∧ p.1 < p.2 ∧ p.2 ≤ 100 ∧ okF (p.2 + 1) (r ++ m)) ↔ (lo ≤ p.1 ∧ p.1 < p.2 ∧ p.2 ≤ 100 ∧ okF (p.2 + 1) r) ∧ okF (endF (p.2 + 1) r) m
    rw [okF_app]
    simp only [and_assoc]
theorem endF_app : ∀ {l m : PL} {lo : Int}, endF lo (l ++ m) = endF (endF lo l) m
  | [], m, lo => rfl
  | p :: r, m, lo => endF_app (l := r)
theorem okF_end : ∀ {l : PL} {lo : Int}, okF lo l → lo ≤ 101 → endF lo l ≤ 101
  | [], _, _, h => h
  | p :: r, lo, ⟨a, b, c, d⟩, h => okF_end (l := r) d (by omega)
/-- a spread is told by its keys -/
theorem okF_uniq : ∀ {l m : PL} {lo lo' : Int}, okF lo l → okF lo' m → (∀ k, hasD l k = hasD m k) → l = m
  | [], [], _, _, _, _, _ => rfl
  | [], q :: s, _, _, _, ⟨a, b, c, d⟩, h => by
    have := h q.1
    rw [hasD_nil] at this
    have h2 : hasD (q :: s) q.1 = true := hasD_consT.mpr (.inl ⟨Int.le_refl _, b⟩)
    rw [h2] at this; cases this
  | p :: r, [], _, _, ⟨a, b, c, d⟩, _, h => by
    have := h p.1
    rw [hasD_nil] at this
    have h2 : hasD (p :: r) p.1 = true := hasD_consT.mpr (.inl ⟨Int.le_refl _, b⟩)
    rw [h2] at this; cases this
  | p :: r, q :: s, lo, lo', ⟨a, b, c, d⟩, ⟨a', b', c', d'⟩, h => by
    have hp : hasD (q :: s) p.1 = true := by rw [← h]; exact hasD_consT.mpr (.inl ⟨Int.le_refl _, b⟩)
    have hq : hasD (p :: r) q.1 = true := by rw [h]; exact hasD_consT.mpr (.inl ⟨Int.le_refl _, b'⟩)
    have e1 : p.1 = q.1 := by
      have x := okF_low (lo := q.1) (l := q :: s) ⟨Int.le_refl _, b', c', d'⟩ hp
      have y := okF_low (lo := p.1) (l := p :: r) ⟨Int.le_refl _, b, c, d⟩ hq
      omega
    have e2 : p.2 = q.2 := by
      rcases Int.lt_trichotomy p.2 q.2 with g | g | g
      · have x : hasD (p :: r) p.2 = true := by rw [h]; exact hasD_consT.mpr (.inl ⟨by omega, g⟩)
        rcases hasD_consT.mp x with x | x
        · omega
        · have := okF_low d x; omega
      · exact g
      · have x : hasD (q :: s) q.2 = true := by rw [← h]; exact hasD_consT.mpr (.inl ⟨by omega, g⟩)
        rcases hasD_consT.mp x with x | x
        · omega
        · have := okF_low d' x; omega
    have e3 : r = s := okF_uniq d d' fun k => by
      have := h k
      rw [Bool.eq_iff_iff, hasD_consT, hasD_consT, e1, e2] at this
      rw [Bool.eq_iff_iff]
      constructor
      · intro x
        have := this.mp (.inr x)
        rcases this with z | z
        · have := okF_low d x; omega
        · exact z
      · intro x
        have := this.mpr (.inr x)
        rcases this with z | z
        · have := okF_low d' x; omega
        · exact z
    rw [e3, show p = q from Prod.ext e1 e2]
/-! spread_of -/
def mgR : Int × Int → PL → PL
  | c, [] => [c]
  | c, p :: r => if p.1 ≤ c.2 then mgR (c.1, if p.2 > c.2 then p.2 else c.2) r else c :: mgR p r
theorem mg_fold : ∀ (l i : PL) (c : Int × Int), l.foldl mg1 (i ++ [c]) = i ++ mgR c l
  | [], i, c => rfl
  | p :: r, i, c => by
    rw [List.foldl_cons, mg1_snoc]
    unfold mgR
    split
    · exact mg_fold r i _
    · rw [mg_fold r (i ++ [c]) p, List.append_assoc]; rfl
def okSt (p : Int × Int) : Prop := 0 ≤ p.1 ∧ p.1 < p.2 ∧ p.2 ≤ 100
theorem mgR_ok : ∀ (l : PL) (c : Int × Int) (lo : Int), lo ≤ c.1 → c.1 < c.2 → c.2 ≤ 100 → (∀ p ∈ l, okSt p) → (c :: l).Pairwise (fun p q => leP p q = true) → okF lo (mgR c l) ∧ ∀ k, hasD (mgR c l) k = hasD (c :: l) k
  | [], c, lo, h1, h2, h3, _, _ => ⟨⟨h1, h2, h3, True.intro⟩, fun _ => rfl⟩
  | p :: r, c, lo, h1, h2, h3, hl, hs => by
    have hp := hl p List.mem_cons_self
    have hc : c.1 ≤ p.1 := by
      have := (List.pairwise_cons.mp hs).1 p List.mem_cons_self
      simp only [leP, Bool.or_eq_true, Bool.and_eq_true, decide_eq_true_eq] at this
      omega
    have hs2 := (List.pairwise_cons.mp hs).2
    unfold mgR
    split
    · next hle =>
      have hh := mgR_ok r (c.1, if p.2 > c.2 then p.2 else c.2) lo h1 (by dsimp only; split <;> omega) (by have := hp.2.2; dsimp only; split <;> omega) (fun q hq => hl q (List.mem_cons_of_mem _ hq)) (by
        refine List.pairwise_cons.mpr ⟨fun q hq => ?_, (List.pairwise_cons.mp hs2).2⟩
        have a1 := (List.pairwise_cons.mp hs).1 q (List.mem_cons_of_mem _ hq)
        have a2 := (List.pairwise_cons.mp hs2).1 q hq
        simp only [leP, Bool.or_eq_true, Bool.and_eq_true, decide_eq_true_eq] at a1 a2 ⊢
        split <;> omega)
      refine ⟨hh.1, fun k => ?_⟩
      rw [hh.2, Bool.eq_iff_iff, hasD_consT, hasD_consT, hasD_consT, ← or_assoc]
      have := hp.2.1
      refine or_congr ?_ Iff.rfl
      dsimp only
      split <;> omega
    · next hle =>
      have hh := mgR_ok r p (c.2 + 1) (by omega) hp.2.1 hp.2.2 (fun q hq => hl q (List.mem_cons_of_mem _ hq)) hs2
      refine ⟨⟨h1, h2, h3, hh.1⟩, fun k => ?_⟩
      rw [hasD_cons, hh.2, hasD_cons c]
theorem spreadOf_ok (xs : PL) (h : ∀ p ∈ xs, okSt p) : okF 0 (spreadOf xs) ∧ ∀ k, hasD (spreadOf xs) k = hasD xs k := by
  have hm : ∀ p ∈ sortP xs, okSt p := fun p hp => h p ((sortP_perm xs).mem_iff.mp hp)
  have hw := sortP_pw xs
  have he := hasD_perm (sortP_perm xs)
  unfold spreadOf
  cases e : sortP xs with
  | nil => rw [e] at he; exact ⟨True.intro, fun k => he k⟩
  | cons c l =>
    rw [e] at hm hw he
    rw [List.foldl_cons, mg1_nil, show [c] = [] ++ [c] from rfl, mg_fold, List.nil_append]
    have hc := hm c List.mem_cons_self
    have hh := mgR_ok l c 0 hc.1 hc.2.1 hc.2.2 (fun p hp => hm p (List.mem_cons_of_mem _ hp)) hw
    exact ⟨hh.1, fun k => by rw [hh.2, he]⟩
theorem okF_st : ∀ {l : PL} {lo : Int}, okF lo l → 0 ≤ lo → ∀ p ∈ l, okSt p
  | [], _, _, _, _, h => by cases h
  | q :: r, lo, ⟨a, b, c, d⟩, h0, p, hp => by
    rcases List.mem_cons.mp hp with rfl | hp
    · exact ⟨by omega, b, c⟩
    · exact okF_st d (by omega) p hp
theorem spreadOf_eq {xs l : PL} (h : ∀ p ∈ xs, okSt p) (hl : okF 0 l) (he : ∀ k, hasD xs k = hasD l k) : spreadOf xs = l :=
  okF_uniq (spreadOf_ok xs h).1 hl fun k => by rw [(spreadOf_ok xs h).2, he]
theorem hasD_keys (ks : List Int) (k : Int) : hasD (ks.map fun k => (k, k + 1)) k = decide (k ∈ ks) := by
  rw [Bool.eq_iff_iff, hasD_mem, decide_eq_true_eq]
  constructor
  · rintro ⟨p, hp, h⟩
    obtain ⟨j, hj, rfl⟩ := List.mem_map.mp hp
    have : j = k := by dsimp only at h; omega
    exact this ▸ hj
  · intro h
    exact ⟨_, List.mem_map.mpr ⟨k, h, rfl⟩, by dsimp only; omega⟩
theorem okSt_keys {ks : List Int} (h : ∀ k ∈ ks, 0 ≤ k ∧ k < 100) : ∀ p ∈ (ks.map fun k => (k, k + 1)), okSt p := by
  intro p hp
  obtain ⟨j, hj, rfl⟩ := List.mem_map.mp hp
  have := h j hj
  exact ⟨this.1, by dsimp only; omega, by dsimp only; omega⟩
/-! keys -/
theorem mem_rgI {i j k : Int} : k ∈ rgI i j ↔ i ≤ k ∧ k < j := by
  unfold rgI
  rw [List.mem_map]
  constructor
  · rintro ⟨n, hn, rfl⟩
    have := List.mem_range.mp hn
    omega
  · intro h
    exact ⟨(k - i).toNat, List.mem_range.mpr (by omega), by omega⟩
theorem mem_keysOf {l : PL} {k : Int} : k ∈ keysOf l ↔ hasD l k = true := by
  unfold keysOf
  rw [List.mem_flatMap, hasD_mem]
  simp only [mem_rgI]
theorem rgI_pw (i j : Int) : (rgI i j).Pairwise (· < ·) := by
  unfold rgI
  refine List.Pairwise.map _ (R := fun a b => a < b) (fun a b h => by omega) List.pairwise_lt_range
theorem rgI_len (i j : Int) : ((rgI i j).length : Int) = if i ≤ j then j - i else 0 := by
  unfold rgI
  rw [List.length_map, List.length_range]
  split <;> omega
theorem keysOf_pw : ∀ {l : PL} {lo : Int}, okF lo l → (keysOf l).Pairwise (· < ·)
  | [], _, _ => List.Pairwise.nil
  | p :: r, lo, ⟨a, b, c, d⟩ => by
    unfold keysOf
    rw [List.flatMap_cons, List.pairwise_append]
    refine ⟨rgI_pw _ _, keysOf_pw d, fun x hx y hy => ?_⟩
    have h1 := mem_rgI.mp hx
    have h2 := okF_low d (mem_keysOf.mp hy)
    omega
theorem keysOf_len : ∀ {l : PL} {lo : Int}, okF lo l → ((keysOf l).length : Int) = sizeOf' l
  | [], _, _ => rfl
  | p :: r, lo, ⟨a, b, c, d⟩ => by
    have := keysOf_len d
    unfold keysOf sizeOf' at *
    rw [List.flatMap_cons, List.length_append, List.map_cons, List.sum_cons]
    have h := rgI_len p.1 p.2
    rw [if_pos (by omega)] at h
    omega
theorem pw_ext : ∀ {l m : List Int}, l.Pairwise (· < ·) → m.Pairwise (· < ·) → (∀ x, x ∈ l ↔ x ∈ m) → l = m
  | [], [], _, _, _ => rfl
  | [], y :: m, _, _, h => by have := (h y).mpr List.mem_cons_self; cases this
  | x :: l, [], _, _, h => by have := (h x).mp List.mem_cons_self; cases this
  | x :: l, y :: m, h1, h2, h => by
    have a1 := List.pairwise_cons.mp h1
    have a2 := List.pairwise_cons.mp h2
    have e : x = y := by
      rcases List.mem_cons.mp ((h x).mp List.mem_cons_self) with e | e
      · exact e
      · rcases List.mem_cons.mp ((h y).mpr List.mem_cons_self) with e2 | e2
        · exact e2.symm
        · have := a2.1 x e; have := a1.1 y e2; omega
    subst e
    rw [pw_ext a1.2 a2.2 fun z => ?_]
    constructor
    · intro hz
      rcases List.mem_cons.mp ((h z).mp (List.mem_cons_of_mem _ hz)) with e | e
      · have := a1.1 z hz; omega
      · exact e
    · intro hz
      rcases List.mem_cons.mp ((h z).mpr (List.mem_cons_of_mem _ hz)) with e | e
      · have := a2.1 z hz; omega
      · exact e
theorem keysOf_eq {l : PL} (h : okF 0 l) : (rgI 0 100).filter (hasD l) = keysOf l :=
  pw_ext ((rgI_pw 0 100).filter _) (keysOf_pw h) fun x => by
    rw [List.mem_filter, mem_rgI, mem_keysOf]
    exact ⟨fun a => a.2, fun a => ⟨⟨okF_low h a, okF_top h a⟩, a⟩⟩
theorem keysOf_uniq {l m : PL} (hl : okF 0 l) (hm : okF 0 m) (h : keysOf l = keysOf m) : l = m :=
  okF_uniq hl hm fun k => by rw [Bool.eq_iff_iff, ← mem_keysOf, ← mem_keysOf, h]
theorem okF_len : ∀ {l : PL} {lo : Int}, okF lo l → lo ≤ 101 → 2 * (l.length : Int) ≤ 101 - lo
  | [], _, _, h => by simp; omega
  | p :: r, lo, ⟨a, b, c, d⟩, h => by
    have := okF_len d (by omega)
    rw [List.length_cons]; omega
theorem spreadOf_keys {ks : List Int} (hk : ∀ k ∈ ks, 0 ≤ k ∧ k < 100) {l : PL} (hl : okF 0 l) (h : ∀ k, k ∈ ks ↔ hasD l k = true) : spreadOf (ks.map fun k => (k, k + 1)) = l :=
  spreadOf_eq (okSt_keys hk) hl fun k => by rw [hasD_keys, Bool.eq_iff_iff, decide_eq_true_eq]; exact h k
/-! the form of some keys -/
def fm1 (f : Int → Bool) (acc : PL) (k : Int) : PL := if f k = true ∧ 0 < k ∧ f (k - 1) = true then (match acc.getLast? with | some l => acc.dropLast ++ [(l.1, k + 1)] | none => acc) else if f k then acc ++ [(k, k + 1)] else acc
def formOf (f : Int → Bool) : PL := (rgI 0 100).foldl (fm1 f) []
structure FI (f : Int → Bool) (n : Int) (acc : PL) : Prop where
  ok : okF 0 acc
  en : endF 0 acc ≤ n + 1
  has : ∀ k, hasD acc k = (decide (0 ≤ k) && decide (k < n) && f k)
theorem FI.last {f : Int → Bool} {n : Int} {acc : PL} (h : FI f n acc) (h0 : 0 < n) (hf : f (n - 1) = true) : ∃ i l, acc = i ++ [l] ∧ l.2 = n := by
  have hh := h.has (n - 1)
  rw [hf, decide_eq_true (by omega), decide_eq_true (by omega)] at hh
  rcases nil_or_snoc acc with rfl | ⟨i, l, rfl⟩
  · cases hh
  · refine ⟨i, l, rfl, ?_⟩
    have h1 := okF_app.mp h.ok
    have h2 := h.en
    rw [endF_app] at h2
    have h2 : l.2 + 1 ≤ n + 1 := h2
    have h3 : endF 0 i ≤ l.1 := h1.2.1
    have h4 := h1.2.2.1
    rw [hasD_app] at hh
    rcases Bool.or_eq_true _ _ ▸ hh with e | e
    · have := okF_high h1.1 e; omega
    · rcases hasD_consT.mp e with e | e
      · omega
      · cases e
theorem FI.step {f : Int → Bool} {n : Int} {acc : PL} (h : FI f n acc) (h0 : 0 ≤ n) (h1 : n < 100) : FI f (n + 1) (fm1 f acc n) := by
  have key : ∀ k : Int, (decide (0 ≤ k) && decide (k < n + 1) && f k) = (decide (0 ≤ k) && decide (k < n) && f k || (decide (k = n) && f n)) := by
    intro k
    by_cases e : k = n
    · subst e; simp [h0]
      intro; omega
    · have e2 : (k < n + 1) = (k < n) := propext ⟨fun _ => by omega, fun _ => by omega⟩
      simp only [e, e2, decide_false, Bool.false_and, Bool.or_false]
  unfold fm1
  split
  · next c =>
    obtain ⟨i, l, rfl, el⟩ := h.last c.2.1 c.2.2
    rw [show (i ++ [l]).getLast? = some l by rw [List.getLast?_append]; rfl, List.dropLast_concat]
    have h3 := okF_app.mp h.ok
    refine ⟨?_, ?_, fun k => ?_⟩
    · refine okF_app.mpr ⟨h3.1, h3.2.1, ?_, ?_, True.intro⟩
      · have := h3.2.2.1; show l.1 < n + 1; omega
      · show n + 1 ≤ 100; omega
    · rw [endF_app]; exact Int.le_refl _
    · rw [key, ← h.has, hasD_app, hasD_app, Bool.or_assoc]
      congr 1
      rw [Bool.eq_iff_iff, c.1]
      have := h3.2.2.1
      simp [hasD_cons, hasD_nil]
      omega
  · next c =>
    split
    · next c2 =>
      refine ⟨okF_app.mpr ⟨h.ok, ?_, ?_, ?_, True.intro⟩, ?_, fun k => ?_⟩
      · rcases nil_or_snoc acc with rfl | ⟨i, l, rfl⟩
        · exact h0
        · have h3 := okF_app.mp h.ok
          have h2 := h.en
          rw [endF_app] at h2 ⊢
          have h2 : l.2 + 1 ≤ n + 1 := h2
          show l.2 + 1 ≤ n
          have h4 := h3.2.2.1
          have h5 : endF 0 i ≤ l.1 := h3.2.1
          have h6 := okF_le h3.1
          rcases Int.lt_or_eq_of_le h2 with g | g
          · omega
          · exfalso
            have hh := h.has (n - 1)
            rw [hasD_app, show hasD [l] (n - 1) = true from hasD_consT.mpr (.inl ⟨by omega, by omega⟩), Bool.or_true] at hh
            have hh := Bool.and_eq_true _ _ ▸ hh.symm
            exact c ⟨c2, by omega, hh.2⟩
      · show n < n + 1; omega
      · show n + 1 ≤ 100; omega
      · rw [endF_app]; exact Int.le_refl _
      · rw [key, ← h.has, hasD_app]
        congr 1
        rw [Bool.eq_iff_iff, c2]
        simp [hasD_cons, hasD_nil]
        omega
    · next c2 =>
      refine ⟨h.ok, by have := h.en; omega, fun k => ?_⟩
      rw [key, ← h.has, Bool.eq_false_iff.mpr c2, Bool.and_false, Bool.or_false]
theorem rgI_snoc {i j : Int} (h : i ≤ j) : rgI i (j + 1) = rgI i j ++ [j] := by
  unfold rgI
  rw [show (j + 1 - i).toNat = (j - i).toNat + 1 by omega, List.range_succ, List.map_append, List.map_singleton]
  congr 2
  omega
theorem form_fi (f : Int → Bool) : ∀ n : Nat, n ≤ 100 → FI f n ((rgI 0 n).foldl (fm1 f) [])
  | 0, _ => ⟨True.intro, by show (0 : Int) ≤ _; omega, fun k => by
      have : (decide (0 ≤ k) && decide (k < ((0 : Nat) : Int)) && f k) = false := by
        rw [Bool.eq_false_iff]; intro h
        simp at h; omega
      rw [this]; rfl⟩
  | n + 1, h => by
    have := (form_fi f n (by omega)).step (by omega) (by omega)
    rw [show ((n + 1 : Nat) : Int) = (n : Int) + 1 from rfl, rgI_snoc (by omega), List.foldl_append]
    exact this
theorem form_ok (f : Int → Bool) : okF 0 (formOf f) := (form_fi f 100 (Nat.le_refl _)).ok
theorem form_has (f : Int → Bool) (k : Int) : hasD (formOf f) k = (decide (0 ≤ k) && decide (k < 100) && f k) := (form_fi f 100 (Nat.le_refl _)).has k
theorem form_eq {f : Int → Bool} {l : PL} (hl : okF 0 l) (h : ∀ k, 0 ≤ k → k < 100 → f k = hasD l k) : formOf f = l :=
  okF_uniq (form_ok f) hl fun k => by
    rw [form_has]
    by_cases a : 0 ≤ k
    · by_cases b : k < 100
      · rw [decide_eq_true a, decide_eq_true b, h k a b]; rfl
      · rw [decide_eq_true a, decide_eq_false b]
        show false = hasD l k
        symm; rw [Bool.eq_false_iff]; intro e; have := okF_top hl e; exact absurd this b
    · rw [decide_eq_false a]
      show false = hasD l k
      symm; rw [Bool.eq_false_iff]; intro e; have := okF_low hl e; exact absurd this a
end DP

set_option Elab.async false
set_option linter.all false
set_option maxRecDepth 100000
namespace DP
open DL PySem
open L2 hiding prD
local macro_rules | `(tactic| walk_at "wp") => `(tactic| try simp only [startD, List.map_cons, List.map_nil, List.length_cons, List.length_nil, Nat.zero_add, Nat.reduceAdd, Nat.reduceSub, List.replicate_succ, List.replicate_zero, List.cons_append, List.nil_append, List.set_cons_zero, List.set_cons_succ, setAll, wipeD,
  wq_var0, wq_var1, wq_var2, wq_var3, wq_var4, wq_var5, wq_var6, wq_var7, wq_var8, wq_var9, wq_var10, wq_var11, wq_var12, wq_var13, wq_var14, wq_var15, wq_cst, wq_tup, wq_lst, wq_bin, wq_neg, wq_cmp, wq_chn, wq_isn, wq_isb, wq_notv, wq_andv, wq_orv, wq_ite, wq_call, wq_bi, wq_isi, wq_rgl, wq_ix, wq_cut, wq_rev, wq_comp, wq_bm, wq_nil, wq_cons, wq_on, wq_os, wq_val, wq_and, wq_or, wq_not, wq_yes, wq_snil, wq_scons, wq_set, wq_tset, wq_par, wq_sub, wq_expr, wq_if, wq_for, wq_whil, wq_ret, wq_pass, wq_cont, end_rt, end_nx,
  x_addI, x_addT, x_addS, x_sub, x_mul, x_fdiv, x_mod, x_lt, x_le, x_gt, x_ge, x_eqI, x_neI, x_bTst, x_truB, x_truN, x_truI, x_truT, x_truR, x_lenT, x_lenR, x_tupT, x_lstT, x_min2, x_max2, x_intB, x_intI, x_cutT, x_revT, x_srcT, x_srcR, x_rng1, x_rng2, x_zip, x_rgl1, x_rgl2, g_nm, g_tp, g_cons, g_nil, ty_app, ty_ext, ty_pop, ty_popi, if_true, if_false, Bool.false_eq_true, Bool.true_eq_false, Bool.not_true, Bool.not_false, len2_ok, len0_ok, true_and, isNonD])

def twn (k : Nat) : List D := List.replicate k (.int 0)
abbrev tw (k : Nat) : AO := .lst (twn k)
theorem twn_len (k : Nat) : (twn k).length = k := List.length_replicate
theorem twn_snoc (k : Nat) : twn k ++ [.int 0] = twn (k + 1) := by
  unfold twn; rw [← List.replicate_succ']
theorem cmulA {i j : Int} (h : -(2 ^ 64) < i ∧ i < 2 ^ 64) : CMul i j := .inl h
theorem cmulB {i j : Int} (h : -(2 ^ 64) < j ∧ j < 2 ^ 64) : CMul i j := .inr h
theorem cdiv64 {i : Int} : CDiv i 64 := ⟨by decide, by decide⟩
theorem cdiv2 {i : Int} : CDiv i 2 := ⟨by decide, by decide⟩
theorem atI_mod {α : Type} (l : List α) (j : Int) (h : l ≠ []) : ∃ x ∈ l, L2.atI l (j % (l.length : Int)) = some x := by
  have hp : 0 < l.length := List.length_pos_iff.mpr h
  have h1 := Int.emod_nonneg j (b := (l.length : Int)) (by omega)
  have h2 := Int.emod_lt_of_pos j (b := (l.length : Int)) (by omega)
  have hi : (j % (l.length : Int)).toNat < l.length := by omega
  refine ⟨l[(j % (l.length : Int)).toNat], List.getElem_mem hi, ?_⟩
  have := atI_nat (j := (j % (l.length : Int)).toNat) (List.getElem?_eq_getElem hi)
  rw [Int.toNat_of_nonneg h1] at this
  exact this
theorem eq_or_ne' {α : Type} (l : List α) : l = [] ∨ l ≠ [] := by cases l with | nil => exact .inl rfl | cons a b => exact .inr (by simp)
theorem draw1 {G : Gm} (hG : G.fn 102 = some ⟨3, 6, IR.law_draw_k01⟩) (n : Nat) (ns : List Int) {t : Addr} {k : Nat} {m : Int} {A : AH} {Q : QE} {E : XQ} (ht : A t = some (tw k)) (hk : k < 100000) (hm : 0 < m) (h : ∀ r, 0 ≤ r → r < m → Q (.int r) (up A t (tw (k + 1)))) : callN G (n + 1) 102 [.rol (ns.map .int), .ref t, .int m] A Q E := by
  refine callN_mk hG rfl ?_
  unfold IR.law_draw_k01
  walk_at "wp"
  rw [x_isL ht, x_app ht]
  refine ⟨True.intro, by rw [twn_len]; exact Nat.lt_of_lt_of_le hk (by decide), ?_⟩
  rw [twn_snoc, x_lenL up_same]
  rcases eq_or_ne' ns with rfl | hne
  · walk_at "wp"
    refine ⟨cmulA (by decide), by decide, cmulA (by omega), by decide, cmulB (by decide), by decide, cdiv64, hm, ret_here (h _ (Int.emod_nonneg _ (by omega)) (Int.emod_lt_of_pos _ hm))⟩
  · obtain ⟨x, hx, ex⟩ := atI_mod (ns.map D.int) ((twn (k + 1)).length : Int) (by rw [Ne, List.map_eq_nil_iff]; exact hne)
    obtain ⟨y, hy, rfl⟩ := List.mem_map.mp hx
    have hp : 0 < (List.map D.int ns).length := by rw [List.length_map]; exact List.length_pos_iff.mpr hne
    walk_at "wp"
    rw [show (!(List.map D.int ns).isEmpty) = true by cases ns with | nil => exact absurd rfl hne | cons a b => rfl, if_pos rfl]
    refine ⟨by omega, ?_⟩
    rw [x_ixR ex]
    walk_at "wp"
    refine ⟨cmulA (by decide), by decide, cmulA (by omega), by decide, cmulB (by decide), by decide, cdiv64, hm, ret_here (h _ (Int.emod_nonneg _ (by omega)) (Int.emod_lt_of_pos _ hm))⟩
theorem draw2 {G : Gm} (hG : G.fn 102 = some ⟨3, 7, IR.law_draw_k18⟩) (n : Nat) (ns : List Int) {t : Addr} {k : Nat} {m : Int} {A : AH} {Q : QE} {E : XQ} (ht : A t = some (tw k)) (hk : k < 100000) (hm : 0 < m) (h : ∀ r, 0 ≤ r → r < m → Q (.int r) (up A t (tw (k + 1)))) : callN G (n + 1) 102 [.rol (ns.map .int), .ref t, .int m] A Q E := by
  refine callN_mk hG rfl ?_
  unfold IR.law_draw_k18
  walk_at "wp"
  rw [x_isL ht, x_app ht]
  refine ⟨True.intro, by rw [twn_len]; exact Nat.lt_of_lt_of_le hk (by decide), ?_⟩
  rw [twn_snoc, x_lenL up_same]
  rcases eq_or_ne' ns with rfl | hne
  · walk_at "wp"
    refine ⟨cmulA (by decide), by decide, cmulA (by omega), by decide, cmulB (by decide), by decide, cmulA (by omega), by decide, cmulB (by decide), by decide, cdiv64, cmulB (by decide), cdiv64, hm, ret_here (h _ (Int.emod_nonneg _ (by omega)) (Int.emod_lt_of_pos _ hm))⟩
  · obtain ⟨x, hx, ex⟩ := atI_mod (ns.map D.int) ((twn (k + 1)).length : Int) (by rw [Ne, List.map_eq_nil_iff]; exact hne)
    obtain ⟨y, hy, rfl⟩ := List.mem_map.mp hx
    have hp : 0 < (List.map D.int ns).length := by rw [List.length_map]; exact List.length_pos_iff.mpr hne
    walk_at "wp"
    rw [show (!(List.map D.int ns).isEmpty) = true by cases ns with | nil => exact absurd rfl hne | cons a b => rfl, if_pos rfl]
    refine ⟨by omega, ?_⟩
    rw [x_ixR ex]
    walk_at "wp"
    refine ⟨cmulA (by decide), by decide, cmulA (by omega), by decide, cmulB (by decide), by decide, cmulA (by omega), by decide, cmulB (by decide), by decide, cdiv64, cmulB (by decide), cdiv64, hm, ret_here (h _ (Int.emod_nonneg _ (by omega)) (Int.emod_lt_of_pos _ hm))⟩
/-- what the law's draw does, whichever it is -/
def Draws (G : Gm) : Prop := ∀ (n : Nat) (ns : List Int) {t : Addr} {k : Nat} {m : Int} {A : AH} {Q : QE} {E : XQ}, A t = some (tw k) → k < 100000 → 0 < m → (∀ r, 0 ≤ r → r < m → Q (.int r) (up A t (tw (k + 1)))) → callN G (n + 1) 102 [.rol (ns.map .int), .ref t, .int m] A Q E
theorem atI_in {α : Type} (l : List α) {r : Int} (h0 : 0 ≤ r) (h1 : r < l.length) : ∃ x ∈ l, L2.atI l r = some x := by
  have hi : r.toNat < l.length := by omega
  refine ⟨l[r.toNat], List.getElem_mem hi, ?_⟩
  have := atI_nat (j := r.toNat) (List.getElem?_eq_getElem hi)
  rw [Int.toNat_of_nonneg h0] at this
  exact this
theorem pick_lst {G : Gm} (hD : Draws G) (hG : G.fn 103 = some ⟨3, 3, IR.law_pick⟩) (n : Nat) (ns : List Int) {t a : Addr} {k : Nat} {xs : List D} {A : AH} {Q : QE} {E : XQ} (ht : A t = some (tw k)) (hk : k < 100000) (hta : t ≠ a) (ha : A a = some (.lst xs)) (hne : xs ≠ []) (h : ∀ x ∈ xs, Q x (up A t (tw (k + 1)))) : callN G (n + 2) 103 [.rol (ns.map .int), .ref t, .ref a] A Q E := by
  refine callN_mk hG rfl ?_
  unfold IR.law_pick
  walk_at "wp"
  rw [x_lenL ha]
  have hp : 0 < xs.length := List.length_pos_iff.mpr hne
  refine hD n ns ht hk (by omega) fun r h0 h1 => ?_
  obtain ⟨x, hx, ex⟩ := atI_in xs h0 h1
  rw [x_ixL (by rw [up_ne (Ne.symm hta)]; exact ha) ex]
  exact ret_here (h x hx)
theorem pick_tup {G : Gm} (hD : Draws G) (hG : G.fn 103 = some ⟨3, 3, IR.law_pick⟩) (n : Nat) (ns : List Int) {t : Addr} {k : Nat} {xs : List D} {A : AH} {Q : QE} {E : XQ} (ht : A t = some (tw k)) (hk : k < 100000) (hne : xs ≠ []) (h : ∀ x ∈ xs, Q x (up A t (tw (k + 1)))) : callN G (n + 2) 103 [.rol (ns.map .int), .ref t, .tup xs] A Q E := by
  refine callN_mk hG rfl ?_
  unfold IR.law_pick
  walk_at "wp"
  have hp : 0 < xs.length := List.length_pos_iff.mpr hne
  refine hD n ns ht hk (by omega) fun r h0 h1 => ?_
  obtain ⟨x, hx, ex⟩ := atI_in xs h0 h1
  rw [x_ixT ex]
  exact ret_here (h x hx)
/-! loops by an invariant -/
theorem for_inv {tg : Tg} {g : AH → Prop} {body : WS} {P : Pst} (I : Nat → DSt → AH → Prop) : ∀ (xs : List D) (j : Nat) {δ : DSt} {A : AH}, (∀ i x δ A N, xs[i]? = some x → I (j + i) δ A → (∀ δ' A', I (j + i + 1) δ' A' → N δ' A') → g A ∧ gAsg tg x δ A fun δ' => body ⟨N, P.rt, N, P.ex⟩ δ' A) → I j δ A → (∀ δ A, I (j + xs.length) δ A → g A ∧ P.nx δ A) → dFor tg g body xs P δ A
  | [], j, δ, A, _, h0, hn => hn δ A h0
  | x :: xs, j, δ, A, hb, h0, hn => by
    rw [for_cons]
    refine hb 0 x δ A _ rfl h0 fun δ' A' h' => for_inv I xs (j + 1) (fun i y δ A N hy hI hN => ?_) h' fun δ A hI => hn δ A (by rw [List.length_cons]; rw [show j + (xs.length + 1) = j + 1 + xs.length by omega]; exact hI)
    refine hb (i + 1) y δ A N hy (by rw [show j + (i + 1) = j + 1 + i by omega]; exact hI) fun δ' A' h => hN δ' A' (by rw [show j + 1 + i + 1 = j + (i + 1) + 1 by omega]; exact h)
theorem com_inv {tg : Tg} {g : AH → Prop} {t : WT} {e : WE} {δ : DSt} {Q : QE} (I : Nat → List D → AH → Prop) : ∀ (xs : List D) (j : Nat) {acc : List D} {A : AH}, (∀ i x acc A, ∀ N : List D → AH → Prop, xs[i]? = some x → I (j + i) acc A → (∀ acc' A', I (j + i + 1) acc' A' → N acc' A') → g A ∧ gAsg tg x δ A fun δ' => t δ' A (fun b A1 => if b = true then e δ' A1 (fun y A2 => N (acc ++ [y]) A2) (fun _ _ => False) else N acc A1) fun _ _ => False) → I j acc A → (∀ acc A, I (j + xs.length) acc A → g A ∧ newL A acc Q) → dComp tg g t e δ xs acc A Q
  | [], j, acc, A, _, h0, hn => hn acc A h0
  | x :: xs, j, acc, A, hb, h0, hn => by
    rw [com_cons]
    refine hb 0 x acc A (fun acc' A' => dComp tg g t e δ xs acc' A' Q) rfl h0 fun δ' A' h' => com_inv I xs (j + 1) (fun i y δ A N hy hI hN => ?_) h' fun δ A hI => hn δ A (by rw [List.length_cons]; rw [show j + (xs.length + 1) = j + 1 + xs.length by omega]; exact hI)
    refine hb (i + 1) y δ A N hy (by rw [show j + (i + 1) = j + 1 + i by omega]; exact hI) fun δ' A' h => hN δ' A' (by rw [show j + 1 + i + 1 = j + (i + 1) + 1 by omega]; exact h)
theorem rgD_get {m : Int} {i : Nat} {x : D} (h : (rgD 0 m)[i]? = some x) : x = .int i ∧ (i : Int) < m := by
  have hi := (List.getElem?_eq_some_iff.mp h).1
  have := (List.getElem?_eq_some_iff.mp h).2
  unfold rgD at hi this
  rw [List.length_map, List.length_range] at hi
  rw [List.getElem_map, List.getElem_range] at this
  refine ⟨?_, by omega⟩
  rw [← this]; congr 1; omega
theorem rgD_len (i j : Int) : (rgD i j).length = (j - i).toNat := by unfold rgD; rw [List.length_map, List.length_range]
/-! a heap that has grown, and whose town is longer -/
theorem gr_t {A A' : AH} {t : Addr} {o : AO} (s : Sub (up A t o) A') : A' t = some o := s _ _ up_same
theorem gr_o {A A' : AH} {t a : Addr} {o u : AO} (s : Sub (up A t o) A') (h : a ≠ t) (ha : A a = some u) : A' a = some u := s _ _ (by rw [up_ne h]; exact ha)
theorem gr_up {A A' : AH} {t : Addr} {o u : AO} (s : Sub (up A t o) A') : Sub (up A t u) (up A' t u) := by
  intro a v h
  by_cases e : a = t
  · subst e; rw [up_same] at h ⊢; exact h
  · rw [up_ne e] at h ⊢; exact s _ _ (by rw [up_ne e]; exact h)
theorem gr_new {A B : AH} {p : Addr} {o : AO} (s : Sub B A) (h : A p = none) : Sub B (up A p o) := fun a v ha => Sub.new h _ _ (s _ _ ha)
theorem gr_id {A : AH} {t : Addr} {o : AO} (h : A t = some o) : Sub (up A t o) A := by rw [up_id h]; exact Sub.refl A
theorem ne_free {A : AH} {t p : Addr} {o : AO} (h : A t = some o) (hp : A p = none) : t ≠ p := by intro e; subst e; rw [h] at hp; cases hp
end DP

set_option Elab.async false
set_option linter.all false
set_option maxRecDepth 100000
namespace DP
open DL PySem
open L2 hiding prD
local macro_rules | `(tactic| walk_at "wp") => `(tactic| try simp only [startD, List.map_cons, List.map_nil, List.length_cons, List.length_nil, Nat.zero_add, Nat.reduceAdd, Nat.reduceSub, List.replicate_succ, List.replicate_zero, List.cons_append, List.nil_append, List.set_cons_zero, List.set_cons_succ, setAll, wipeD,
  wq_var0, wq_var1, wq_var2, wq_var3, wq_var4, wq_var5, wq_var6, wq_var7, wq_var8, wq_var9, wq_var10, wq_var11, wq_var12, wq_var13, wq_var14, wq_var15, wq_cst, wq_tup, wq_lst, wq_bin, wq_neg, wq_cmp, wq_chn, wq_isn, wq_isb, wq_notv, wq_andv, wq_orv, wq_ite, wq_call, wq_bi, wq_isi, wq_rgl, wq_ix, wq_cut, wq_rev, wq_comp, wq_bm, wq_nil, wq_cons, wq_on, wq_os, wq_val, wq_and, wq_or, wq_not, wq_yes, wq_snil, wq_scons, wq_set, wq_tset, wq_par, wq_sub, wq_expr, wq_if, wq_for, wq_whil, wq_ret, wq_pass, wq_cont, end_rt, end_nx,
  x_addI, x_addT, x_addS, x_sub, x_mul, x_fdiv, x_mod, x_lt, x_le, x_gt, x_ge, x_eqI, x_neI, x_bTst, x_truB, x_truN, x_truI, x_truT, x_truR, x_lenT, x_lenR, x_tupT, x_lstT, x_min2, x_max2, x_intB, x_intI, x_cutT, x_revT, x_srcT, x_srcR, x_rng1, x_rng2, x_zip, x_rgl1, x_rgl2, g_nm, g_tp, g_cons, g_nil, ty_app, ty_ext, ty_pop, ty_popi, if_true, if_false, Bool.false_eq_true, Bool.true_eq_false, Bool.not_true, Bool.not_false, len2_ok, len0_ok, true_and, isNonD])

/-! the keys of stretches, and their form -/
def bls (f : Int → Bool) : List D := (rgI 0 100).map fun k => .bl (f k)
theorem bls_len (f : Int → Bool) : (bls f).length = 100 := by unfold bls rgI; rw [List.length_map, List.length_map, List.length_range]; rfl
theorem bls_get (f : Int → Bool) {k : Nat} (h : k < 100) : (bls f)[k]? = some (.bl (f k)) := by
  unfold bls rgI
  rw [List.map_map, List.getElem?_map, List.getElem?_range (by omega)]
  show some (D.bl (f (0 + (k : Nat)))) = _
  rw [Int.zero_add]
theorem bls_at (f : Int → Bool) {k : Int} (h0 : 0 ≤ k) (h : k < 100) : L2.atI (bls f) k = some (.bl (f k)) := by
  have := atI_nat (bls_get f (k := k.toNat) (by omega))
  rw [Int.toNat_of_nonneg h0] at this
  exact this
theorem bls_set (f : Int → Bool) {k : Nat} (h : k < 100) : (bls f).set k (.bl true) = bls (fun j => f j || decide (j = k)) := by
  refine List.ext_getElem? fun i => ?_
  rw [List.getElem?_set, bls_len]
  by_cases hi : i < 100
  · rw [bls_get _ hi, bls_get _ hi]
    by_cases e : k = i
    · subst e; rw [if_pos rfl, if_pos h]; simp
    · rw [if_neg e]
      have : ¬ (i : Int) = k := by omega
      simp [this]
  · rw [List.getElem?_eq_none (by rw [bls_len]; omega), List.getElem?_eq_none (by rw [bls_len]; omega)]
    split <;> simp
    omega
theorem dSub_bls {A : AH} {a : Addr} {f : Int → Bool} {k : Int} {Q : AH → Prop} (h : A a = some (.lst (bls f))) (h0 : 0 ≤ k) (h1 : k < 100) : dSub (.ref a) (.int k) (.bl true) A Q = Q (up A a (.lst (bls (fun j => f j || decide (j = k))))) := by
  have e : ixN (bls f).length k = some k.toNat := by
    rw [bls_len]; unfold ixN
    rw [if_pos h0]
    have : k.toNat < 100 := by omega
    simp [this]
    omega
  simp only [dSub, h, e]
  rw [bls_set f (by omega)]
  rw [Int.toNat_of_nonneg h0]
theorem bls_congr {f g : Int → Bool} (h : ∀ k, 0 ≤ k → k < 100 → f k = g k) : bls f = bls g := by
  unfold bls
  refine List.map_congr_left fun k hk => ?_
  have := mem_rgI.mp hk
  rw [h k this.1 this.2]
theorem bls_no : (List.replicate (100 : Int).toNat [D.bl false]).flatten = bls fun _ => false := by
  unfold bls rgI; rfl
theorem rgI_get {a b z : Int} {j : Nat} (h : (rgI a b)[j]? = some z) : z = a + (j : Nat) := by
  unfold rgI at h
  rw [List.getElem?_map] at h
  obtain ⟨w, hw, rfl⟩ := Option.map_eq_some_iff.mp h
  have := (List.getElem?_eq_some_iff.mp hw).2
  rw [List.getElem_range] at this
  omega
theorem law_keys1 {G : Gm} (hG : G.fn 105 = some ⟨1, 5, IR.law_keys_k01⟩) (n : Nat) (xs : PL) (hx : ∀ p ∈ xs, okSt p) (hz : xs.length < 100000) {A : AH} {Q : QE} {E : XQ} (h : ∀ p, A p = none → Q (.ref p) (up A p (.lst (bls (hasD xs))))) : callN G (n + 1) 105 [spd xs] A Q E := by
  refine callN_mk hG rfl ?_
  unfold IR.law_keys_k01
  walk_at "wp"
  refine ⟨by decide, ?_⟩
  intro p0 np0
  walk_at "wp"
  rw [x_mulL up_same]
  refine ⟨by decide, by decide, ?_⟩
  intro p np
  have np := up_free.mp np
  rw [bls_no]
  walk_at "wp"
  refine for_inv (fun j δ B => ∃ d2 d3 d4, δ = [some (spd xs), some (.ref p), d2, d3, d4] ∧ B = up (up A p0 (.lst [.bl false])) p (.lst (bls (hasD (xs.take j))))) (prs xs) 0 ?_ ⟨none, none, none, rfl, rfl⟩ ?_
  · rintro i x δ B N hi ⟨d2, d3, d4, rfl, rfl⟩ hN
    refine ⟨True.intro, ?_⟩
    obtain ⟨y, hy, rfl⟩ := List.getElem?_map ▸ hi |> Option.map_eq_some_iff.mp
    have hyo := hx y (List.mem_of_getElem? hy)
    rw [prD_eq]
    unfold IR.law_keys_k01_b2
    walk_at "wp"
    have := hyo.1; have := hyo.2.1; have := hyo.2.2
    refine ⟨by omega, ?_⟩
    refine for_inv (fun j δ B => ∃ d4, δ = [some (spd xs), some (.ref p), some (.int y.1), some (.int y.2), d4] ∧ B = up (up A p0 (.lst [.bl false])) p (.lst (bls (fun k => hasD (xs.take i) k || (decide (y.1 ≤ k) && decide (k < y.1 + (j : Nat))))))) _ 0 ?_ ⟨d4, rfl, ?_⟩ ?_
    · rintro j x δ B N hj ⟨d4, rfl, rfl⟩ hN
      refine ⟨True.intro, ?_⟩
      rw [rgD_eq] at hj
      obtain ⟨z, hz, rfl⟩ := List.getElem?_map ▸ hj |> Option.map_eq_some_iff.mp
      have hzm := mem_rgI.mp (List.mem_of_getElem? hz)
      have hze := rgI_get hz
      unfold IR.law_keys_k01_b1
      walk_at "wp"
      rw [dSub_bls up_same (by omega) (by omega), up_up]
      refine hN _ _ ⟨some (.int z), rfl, ?_⟩
      congr 2
      refine bls_congr fun k h0 h1 => ?_
      rw [Bool.or_assoc]; congr 1
      rw [Bool.eq_iff_iff]; simp; omega
    · congr 2
      refine bls_congr fun k h0 h1 => ?_
      rw [Bool.eq_iff_iff]; simp; omega
    · rintro δ B ⟨d4, rfl, rfl⟩
      refine ⟨True.intro, ?_⟩
      walk_at "wp"
      refine hN _ _ ⟨_, _, _, rfl, ?_⟩
      congr 2
      refine bls_congr fun k h0 h1 => ?_
      rw [Nat.zero_add, List.take_add_one, hy, hasD_app, rgD_len]
      show _ = (hasD (List.take i xs) k || hasD [y] k)
      rw [hasD_cons, hasD_nil, Bool.or_false]
      congr 1
      rw [Bool.eq_iff_iff]; simp; omega
  · rintro δ B ⟨d2, d3, d4, rfl, rfl⟩
    refine ⟨True.intro, ?_⟩
    walk_at "wp"
    rw [show (prs xs).length = xs.length from List.length_map _, List.take_length]
    exact ret_at (Sub.upup (Sub.new np0)) (h p np.2)
theorem law_form {G : Gm} (hG : G.fn 106 = some ⟨1, 3, IR.law_form⟩) (n : Nat) (f : Int → Bool) {a : Addr} {A : AH} {Q : QE} {E : XQ} (ha : A a = some (.lst (bls f))) (h : Q (spd (formOf f)) A) : callN G (n + 1) 106 [.ref a] A Q E := by
  refine callN_mk hG rfl ?_
  unfold IR.law_form
  walk_at "wp"
  intro p np
  walk_at "wp"
  have hap : a ≠ p := ne_free ha np
  refine ⟨by decide, ?_⟩
  refine for_inv (fun j δ B => ∃ d2, δ = [some (.ref a), some (.ref p), d2] ∧ B = up A p (.lst (prs ((rgI 0 j).foldl (fm1 f) [])))) (rgD 0 100) 0 ?_ ⟨none, rfl, rfl⟩ ?_
  · rintro i x δ B N hi ⟨d2, rfl, rfl⟩ hN
    refine ⟨True.intro, ?_⟩
    obtain ⟨rfl, hlt⟩ := rgD_get hi
    rw [Nat.zero_add] at hN ⊢
    have fi := form_fi f i (by omega)
    have e2 : (rgI 0 ((i + 1 : Nat) : Int)).foldl (fm1 f) [] = fm1 f ((rgI 0 (i : Int)).foldl (fm1 f) []) i := by
      rw [show ((i + 1 : Nat) : Int) = (i : Int) + 1 from rfl, rgI_snoc (by omega), List.foldl_append]; rfl
    rw [e2] at hN
    generalize (rgI 0 (i : Int)).foldl (fm1 f) [] = acc at fi hN ⊢
    have hlen := okF_len fi.ok (by decide)
    have hal : up A p (.lst (prs acc)) a = some (.lst (bls f)) := by rw [up_ne hap]; exact ha
    have hat := bls_at f (k := (i : Int)) (by omega) hlt
    have hap1 : ∀ q : Int × Int, (.lst (prs acc ++ [prD q])) = AO.lst (prs (acc ++ [q])) := fun q => by rw [prs, prs, List.map_append]; rfl
    have hsz : (prs acc).length < sizeLine := by
      rw [List.length_map]; exact Nat.lt_of_lt_of_le (by omega : acc.length < 100000) (by decide)
    unfold IR.law_form_b1
    walk_at "wp"
    simp only [x_ixL hal hat, x_truB]
    cases hf : f i with
    | false =>
      simp only [Bool.false_eq_true, if_false]
      refine hN _ _ ⟨_, rfl, ?_⟩
      unfold fm1
      rw [if_neg (by rw [hf]; simp), if_neg (by rw [hf]; simp)]
    | true =>
      simp only [if_true]
      cases hd : decide (0 < (i : Int)) with
      | false =>
        simp only [Bool.false_eq_true, if_false, if_true, x_ixL hal hat, x_truB, hf, x_isL up_same, x_app up_same, up_up, true_and]
        refine ⟨hsz, hN _ _ ⟨_, rfl, ?_⟩⟩
        unfold fm1
        rw [if_neg (by have := of_decide_eq_false hd; omega), if_pos hf, ← hap1]; rfl
      | true =>
        have hd := of_decide_eq_true hd
        have hat1 := bls_at f (k := (i : Int) - 1) (by omega) (by omega)
        simp only [if_true, x_ixL hal hat1, x_truB]
        cases hf1 : f ((i : Int) - 1) with
        | false =>
          simp only [Bool.false_eq_true, if_false, if_true, x_ixL hal hat, x_truB, hf, x_isL up_same, x_app up_same, up_up, true_and]
          refine ⟨hsz, hN _ _ ⟨_, rfl, ?_⟩⟩
          unfold fm1
          rw [if_neg (by rw [hf1]; simp), if_pos hf, ← hap1]; rfl
        | true =>
          simp only [if_true]
          obtain ⟨ii, l, rfl, el⟩ := fi.last hd hf1
          have hpl : up A p (.lst (prs (ii ++ [l]))) p = some (.lst (prs ii ++ [prD l])) := by rw [up_same, prs, List.map_append]; rfl
          have e0 : L2.atI (prs ii ++ [prD l]) (-1) = some (prD l) := atI_last _ _
          simp only [x_ixL hpl e0, prD_eq, x_ixT (atI0 _ _)]
          rw [dSub_last hpl, up_up]
          refine hN _ _ ⟨_, rfl, ?_⟩
          unfold fm1
          rw [if_pos ⟨hf, hd, hf1⟩, show (ii ++ [l]).getLast? = some l by rw [List.getLast?_append]; rfl, List.dropLast_concat]
          simp only [prs, List.map_append]; rfl
  · rintro δ B ⟨d2, rfl, rfl⟩
    refine ⟨True.intro, ?_⟩
    walk_at "wp"
    rw [x_tupL up_same]
    exact ret_at (Sub.new np) h
theorem x_ixFl {xs : List D} {i : Int} {d : D} {A : AH} {Q : QE} (h : L2.atI xs i = some d) : dIx (.fl xs) (.int i) A Q = Q d A := by simp only [dIx, seqD, h]
theorem law_formF {G : Gm} (hG : G.fn 106 = some ⟨1, 3, IR.law_form⟩) (n : Nat) (f : Int → Bool) {A : AH} {Q : QE} {E : XQ} (h : Q (spd (formOf f)) A) : callN G (n + 1) 106 [.fl (bls f)] A Q E := by
  refine callN_mk hG rfl ?_
  unfold IR.law_form
  walk_at "wp"
  intro p np
  walk_at "wp"
  refine ⟨by decide, ?_⟩
  refine for_inv (fun j δ B => ∃ d2, δ = [some (.fl (bls f)), some (.ref p), d2] ∧ B = up A p (.lst (prs ((rgI 0 j).foldl (fm1 f) [])))) (rgD 0 100) 0 ?_ ⟨none, rfl, rfl⟩ ?_
  · rintro i x δ B N hi ⟨d2, rfl, rfl⟩ hN
    refine ⟨True.intro, ?_⟩
    obtain ⟨rfl, hlt⟩ := rgD_get hi
    rw [Nat.zero_add] at hN ⊢
    have fi := form_fi f i (by omega)
    have e2 : (rgI 0 ((i + 1 : Nat) : Int)).foldl (fm1 f) [] = fm1 f ((rgI 0 (i : Int)).foldl (fm1 f) []) i := by
      rw [show ((i + 1 : Nat) : Int) = (i : Int) + 1 from rfl, rgI_snoc (by omega), List.foldl_append]; rfl
    rw [e2] at hN
    generalize (rgI 0 (i : Int)).foldl (fm1 f) [] = acc at fi hN ⊢
    have hlen := okF_len fi.ok (by decide)
    have hat := bls_at f (k := (i : Int)) (by omega) hlt
    have hap1 : ∀ q : Int × Int, (.lst (prs acc ++ [prD q])) = AO.lst (prs (acc ++ [q])) := fun q => by rw [prs, prs, List.map_append]; rfl
    have hsz : (prs acc).length < sizeLine := by
      rw [List.length_map]; exact Nat.lt_of_lt_of_le (by omega : acc.length < 100000) (by decide)
    unfold IR.law_form_b1
    walk_at "wp"
    simp only [x_ixFl hat, x_truB]
    cases hf : f i with
    | false =>
      simp only [Bool.false_eq_true, if_false]
      refine hN _ _ ⟨_, rfl, ?_⟩
      unfold fm1
      rw [if_neg (by rw [hf]; simp), if_neg (by rw [hf]; simp)]
    | true =>
      simp only [if_true]
      cases hd : decide (0 < (i : Int)) with
      | false =>
        simp only [Bool.false_eq_true, if_false, if_true, x_ixFl hat, x_truB, hf, x_isL up_same, x_app up_same, up_up, true_and]
        refine ⟨hsz, hN _ _ ⟨_, rfl, ?_⟩⟩
        unfold fm1
        rw [if_neg (by have := of_decide_eq_false hd; omega), if_pos hf, ← hap1]; rfl
      | true =>
        have hd := of_decide_eq_true hd
        have hat1 := bls_at f (k := (i : Int) - 1) (by omega) (by omega)
        simp only [if_true, x_ixFl hat1, x_truB]
        cases hf1 : f ((i : Int) - 1) with
        | false =>
          simp only [Bool.false_eq_true, if_false, if_true, x_ixFl hat, x_truB, hf, x_isL up_same, x_app up_same, up_up, true_and]
          refine ⟨hsz, hN _ _ ⟨_, rfl, ?_⟩⟩
          unfold fm1
          rw [if_neg (by rw [hf1]; simp), if_pos hf, ← hap1]; rfl
        | true =>
          simp only [if_true]
          obtain ⟨ii, l, rfl, el⟩ := fi.last hd hf1
          have hpl : up A p (.lst (prs (ii ++ [l]))) p = some (.lst (prs ii ++ [prD l])) := by rw [up_same, prs, List.map_append]; rfl
          have e0 : L2.atI (prs ii ++ [prD l]) (-1) = some (prD l) := atI_last _ _
          simp only [x_ixL hpl e0, prD_eq, x_ixT (atI0 _ _)]
          rw [dSub_last hpl, up_up]
          refine hN _ _ ⟨_, rfl, ?_⟩
          unfold fm1
          rw [if_pos ⟨hf, hd, hf1⟩, show (ii ++ [l]).getLast? = some l by rw [List.getLast?_append]; rfl, List.dropLast_concat]
          simp only [prs, List.map_append]; rfl
  · rintro δ B ⟨d2, rfl, rfl⟩
    refine ⟨True.intro, ?_⟩
    walk_at "wp"
    rw [x_tupL up_same]
    exact ret_at (Sub.new np) h
theorem law_stretches {G : Gm} (hD : Draws G) (hG3 : G.fn 103 = some ⟨3, 3, IR.law_pick⟩) (hG : G.fn 104 = some ⟨3, 8, IR.law_stretches⟩) (n : Nat) (ns : List Int) {t : Addr} {k : Nat} {m : Int} {A : AH} {Q : QE} {E : XQ} (ht : A t = some (tw k)) (hk : k < 90000) (hm : 0 ≤ m) (hm2 : m < 1000) (h : ∀ xs k', (∀ p ∈ xs, okSt p) → (xs.length : Int) ≤ m → k ≤ k' → (k' : Int) ≤ k + 2 + 3 * m → Q (spd xs) (up A t (tw k'))) : callN G (n + 3) 104 [.rol (ns.map .int), .ref t, .int m] A Q E := by
  refine callN_mk hG rfl ?_
  unfold IR.law_stretches
  walk_at "wp"
  refine hD _ ns ht (by omega) (by omega) fun r0 _ _ => ?_
  walk_at "wp"
  refine hD _ ns up_same (by omega) (by omega) fun r h0 h1 => ?_
  rw [up_up]
  walk_at "wp"
  refine ⟨by omega, ?_⟩
  refine for_inv (fun j δ B => ∃ xs k' d5 d6 d7, δ = [some (.rol (ns.map .int)), some (.ref t), some (.int m), some (spd xs), some (.bl (decide (r0 = 0))), d5, d6, d7] ∧ (∀ p ∈ xs, okSt p) ∧ xs.length = j ∧ k ≤ k' ∧ k' ≤ k + 2 + 3 * j ∧ DL.Sub (up A t (tw k')) B) (rgD 0 r) 0 ?_ ⟨[], k + 2, none, none, none, rfl, by simp, rfl, by omega, by omega, DL.Sub.refl _⟩ ?_
  · rintro i x δ B N hi ⟨xs, k', d5, d6, d7, rfl, hx, hl, hk1, hk2, hs⟩ hN
    refine ⟨True.intro, ?_⟩
    obtain ⟨rfl, hlt⟩ := rgD_get hi
    rw [Nat.zero_add] at hN hl hk2
    unfold IR.law_stretches_b1
    walk_at "wp"
    intro p np
    have hs1 := gr_new (o := .lst [.int 100, .int 24]) hs np
    have e : ∃ w : Int, L2.atI [D.int 100, D.int 24] (if decide (r0 = 0) = true then 1 else 0) = some (.int w) ∧ 0 < w ∧ w ≤ 100 := by
      split
      · exact ⟨24, atI1 _ _ _, by decide, by decide⟩
      · exact ⟨100, atI0 _ _, by decide, by decide⟩
    obtain ⟨w, ew, hw0, hw1⟩ := e
    rw [x_ixL up_same ew]
    refine hD _ ns (gr_t hs1) (by omega) hw0 fun r1 h10 h11 => ?_
    have hs2 := gr_up (u := tw (k' + 1)) hs1
    walk_at "wp"
    refine ⟨by decide, ?_⟩
    intro q nq
    have hs3 := gr_new (o := .lst [.int 1, .int 4, .int 12, .int 100]) hs2 nq
    have htq : t ≠ q := ne_free (gr_t hs2) nq
    refine pick_lst hD hG3 _ ns (gr_t hs3) (by omega) htq up_same (by simp) fun x hx2 => ?_
    have hs4 := gr_up (u := tw (k' + 2)) hs3
    have : ∃ v : Int, x = .int v ∧ 0 < v ∧ v ≤ 100 := by
      simp only [List.mem_cons, List.not_mem_nil, or_false] at hx2
      rcases hx2 with rfl | rfl | rfl | rfl <;> exact ⟨_, rfl, by decide, by decide⟩
    obtain ⟨v, rfl, hv0, hv1⟩ := this
    refine hD _ ns (gr_t hs4) (by omega) hv0 fun r2 h20 h21 => ?_
    have hs5 := gr_up (u := tw (k' + 3)) hs4
    walk_at "wp"
    refine ⟨by decide, ?_, ?_⟩
    · rw [List.length_map]; exact Nat.le_trans (by omega : xs.length + 1 ≤ 100000) (by decide)
    · refine hN _ _ ⟨xs ++ [(r1, if r1 + (1 + r2) < 100 then r1 + (1 + r2) else 100)], k' + 3, some (.int i), some (.int r1), some (.int (1 + r2)), ?_, ?_, ?_, ?_, ?_, hs5⟩
      · rw [spd, List.map_append]; rfl
      · intro p hp
        rcases List.mem_append.mp hp with hp | hp
        · exact hx p hp
        · rw [List.mem_singleton.mp hp]
          refine ⟨h10, ?_, ?_⟩ <;> dsimp only <;> split <;> omega
      · rw [List.length_append, hl]; rfl
      · omega
      · omega
  · rintro δ B ⟨xs, k', d5, d6, d7, rfl, hx, hl, hk1, hk2, hs⟩
    refine ⟨True.intro, ?_⟩
    rw [Nat.zero_add, rgD_len] at hl hk2
    walk_at "wp"
    exact ret_at hs (h xs k' hx (by omega) hk1 (by omega))
theorem law_spread1 {G : Gm} (hD : Draws G) (hG3 : G.fn 103 = some ⟨3, 3, IR.law_pick⟩) (hG4 : G.fn 104 = some ⟨3, 8, IR.law_stretches⟩) (hG5 : G.fn 105 = some ⟨1, 5, IR.law_keys_k01⟩) (hG6 : G.fn 106 = some ⟨1, 3, IR.law_form⟩) (hG : G.fn 107 = some ⟨3, 3, IR.law_spread_k01⟩) (n : Nat) (ns : List Int) {t : Addr} {k : Nat} {m : Int} {A : AH} {Q : QE} {E : XQ} (ht : A t = some (tw k)) (hk : k < 90000) (hm : 0 ≤ m) (hm2 : m < 1000) (h : ∀ l k', okF 0 l → (l.length : Int) ≤ 50 → k ≤ k' → (k' : Int) ≤ k + 2 + 3 * m → Q (spd l) (up A t (tw k'))) : callN G (n + 4) 107 [.rol (ns.map .int), .ref t, .int m] A Q E := by
  refine callN_mk hG rfl ?_
  unfold IR.law_spread_k01
  walk_at "wp"
  refine law_stretches hD hG3 hG4 _ ns ht hk hm hm2 fun xs k' hx hl h1 h2 => ?_
  walk_at "wp"
  refine law_keys1 hG5 _ xs hx (by omega) fun p np => ?_
  refine law_form hG6 _ _ up_same ?_
  have := okF_len (form_ok (hasD xs)) (by decide)
  exact ret_at (Sub.new np) (h _ _ (form_ok _) (by omega) h1 h2)
theorem law_window1 {G : Gm} (hD : Draws G) (hG3 : G.fn 103 = some ⟨3, 3, IR.law_pick⟩) (hG : G.fn 108 = some ⟨2, 4, IR.law_window_k01⟩) (n : Nat) (ns : List Int) {t : Addr} {k : Nat} {A : AH} {Q : QE} {E : XQ} (ht : A t = some (tw k)) (hk : k < 90000) (h : ∀ p : Int × Int, okSt p → Q (prD p) (up A t (tw (k + 3)))) : callN G (n + 3) 108 [.rol (ns.map .int), .ref t] A Q E := by
  refine callN_mk hG rfl ?_
  unfold IR.law_window_k01
  walk_at "wp"
  refine hD _ ns ht (by omega) (by decide) fun r0 h00 h01 => ?_
  walk_at "wp"
  refine ⟨by decide, ?_⟩
  intro q nq
  have hs3 := gr_new (o := .lst [.int 1, .int 8, .int 30, .int 100]) (DL.Sub.refl _) nq
  have htq : t ≠ q := ne_free up_same nq
  refine pick_lst hD hG3 _ ns (gr_t hs3) (by omega) htq up_same (by simp) fun x hx2 => ?_
  have hs4 := gr_up (u := tw (k + 2)) hs3
  have : ∃ v : Int, x = .int v ∧ 0 < v ∧ v ≤ 100 := by
    simp only [List.mem_cons, List.not_mem_nil, or_false] at hx2
    rcases hx2 with rfl | rfl | rfl | rfl <;> exact ⟨_, rfl, by decide, by decide⟩
  obtain ⟨v, rfl, hv0, hv1⟩ := this
  refine hD _ ns (gr_t hs4) (by omega) hv0 fun r2 h20 h21 => ?_
  have hs5 := gr_up (u := tw (k + 3)) hs4
  walk_at "wp"
  refine ret_at hs5 (h (r0, if r0 + 1 + r2 < 100 then r0 + 1 + r2 else 100) ⟨h00, ?_, ?_⟩) <;> dsimp only <;> split <;> omega
end DP

set_option Elab.async false
set_option linter.all false
set_option maxRecDepth 100000
namespace DP
open DL PySem
open L2 hiding prD
local macro_rules | `(tactic| walk_at "wp") => `(tactic| try simp only [startD, List.map_cons, List.map_nil, List.length_cons, List.length_nil, Nat.zero_add, Nat.reduceAdd, Nat.reduceSub, List.replicate_succ, List.replicate_zero, List.cons_append, List.nil_append, List.set_cons_zero, List.set_cons_succ, setAll, wipeD,
  wq_var0, wq_var1, wq_var2, wq_var3, wq_var4, wq_var5, wq_var6, wq_var7, wq_var8, wq_var9, wq_var10, wq_var11, wq_var12, wq_var13, wq_var14, wq_var15, wq_cst, wq_tup, wq_lst, wq_bin, wq_neg, wq_cmp, wq_chn, wq_isn, wq_isb, wq_notv, wq_andv, wq_orv, wq_ite, wq_call, wq_bi, wq_isi, wq_rgl, wq_ix, wq_cut, wq_rev, wq_comp, wq_bm, wq_nil, wq_cons, wq_on, wq_os, wq_val, wq_and, wq_or, wq_not, wq_yes, wq_snil, wq_scons, wq_set, wq_tset, wq_par, wq_sub, wq_expr, wq_if, wq_for, wq_whil, wq_ret, wq_pass, wq_cont, end_rt, end_nx,
  x_addI, x_addT, x_addS, x_sub, x_mul, x_fdiv, x_mod, x_lt, x_le, x_gt, x_ge, x_eqI, x_neI, x_bTst, x_truB, x_truN, x_truI, x_truT, x_truR, x_lenT, x_lenR, x_tupT, x_lstT, x_min2, x_max2, x_intB, x_intI, x_cutT, x_revT, x_srcT, x_srcR, x_rng1, x_rng2, x_zip, x_rgl1, x_rgl2, g_nm, g_tp, g_cons, g_nil, ty_app, ty_ext, ty_pop, ty_popi, if_true, if_false, Bool.false_eq_true, Bool.true_eq_false, Bool.not_true, Bool.not_false, len2_ok, len0_ok, true_and, isNonD])

/-! slices -/
theorem cut_from {α : Type} (xs : List α) {n : Nat} (h : n ≤ xs.length) : cutL xs (some (n : Int)) none = xs.drop n := by
  unfold cutL
  have e1 : HT.sIx xs.length 0 (some (n : Int)) = n := by
    rw [HT.sIx_nat]; omega
  have e2 : HT.sIx xs.length xs.length none = xs.length := rfl
  rw [e1, e2, List.take_of_length_le (by rw [List.length_drop]; omega)]
theorem cut_to {α : Type} (xs : List α) {n : Nat} (h : n ≤ xs.length) : cutL xs none (some (n : Int)) = xs.take n := by
  unfold cutL
  have e1 : HT.sIx xs.length xs.length (some (n : Int)) = n := by
    rw [HT.sIx_nat]; omega
  have e2 : HT.sIx xs.length 0 none = 0 := rfl
  rw [e1, e2]; rfl
theorem cut_init {α : Type} (xs : List α) : cutL xs none (some (-1)) = xs.dropLast := by
  unfold cutL
  have e1 : HT.sIx xs.length xs.length (some (-1)) = xs.length - 1 := by
    unfold HT.sIx; simp <;> omega
  have e2 : HT.sIx xs.length 0 none = 0 := rfl
  rw [e1, e2, List.dropLast_eq_take]; rfl
theorem cut_tail {α : Type} (xs : List α) : cutL xs (some 1) none = xs.tail := by
  cases xs with
  | nil => rfl
  | cons a l => exact cut_from (a :: l) (n := 1) (by rw [List.length_cons]; omega)
/-! the checks -/
def wholeD (x : D) (lo hi : Int) : Bool := match x with | .int i => decide (lo ≤ i) && decide (i ≤ hi) | _ => false
def stB (p : Int × Int) : Bool := decide (0 ≤ p.1) && decide (p.1 ≤ 99) && decide (p.1 + 1 ≤ p.2) && decide (p.2 ≤ 100)
def stretchD (d : D) : Bool := match pr1 d with | some p => stB p | none => false
def adjB (l : PL) : Bool := (List.zipWith (fun p q : Int × Int => decide (p.2 < q.1)) l.dropLast l.tail).all id
def spreadD (d : D) : Bool := match d with | .tup ds => (match alls pr1 ds with | some l => l.all stB && adjB l | none => false) | _ => false
def isG (A : AH) (x : D) : Prop := ∃ b, isD .int A x = some b ∧ (isD .bool A x).isSome ∧ (isD .tuple A x).isSome
theorem stB_ok {p : Int × Int} : stB p = true ↔ okSt p := by unfold stB okSt; simp; omega
theorem isG_of {A : AH} {x : D} (h : ∀ a, x = .ref a → ∃ xs, A a = some (.lst xs)) (h' : ∀ xs, x ≠ .ptp xs) : isG A x := by
  unfold isG
  cases x <;> first | exact ⟨_, rfl, rfl, rfl⟩ | exact absurd rfl (h' _) | skip
  obtain ⟨xs, e⟩ := h _ rfl
  simp only [isD, e]; exact ⟨_, rfl, rfl, rfl⟩
theorem is_whole_any {G : Gm} (hG : G.fn 1 = some ⟨3, 3, IR.is_whole⟩) (n : Nat) (x : D) (lo hi : Int) {A : AH} {Q : QE} {E : XQ} (hx : isG A x) (h : Q (.bl (wholeD x lo hi)) A) : callN G (n + 1) 1 [x, .int lo, .int hi] A Q E := by
  refine callN_mk hG rfl ?_
  unfold IR.is_whole
  walk_at "wp"
  cases x with
  | int x =>
    simp only [isD]
    walk_at "wp"
    unfold wholeD at h
    dsimp only at h
    cases e : decide (lo ≤ x) with
    | true => rw [if_pos rfl]; rw [e, Bool.true_and] at h; exact ret_here h
    | false => rw [if_neg Bool.false_ne_true]; rw [e, Bool.false_and] at h; exact ret_here h
  | ref a =>
    obtain ⟨b, h1, h2, h3⟩ := hx
    have h2' : isD .bool A (.ref a) = some false := by
      simp only [isD] at h1 ⊢; split at h1 <;> first | rfl | cases h1
    have h1' : isD .int A (.ref a) = some false := by
      simp only [isD] at h1 ⊢; split at h1 <;> first | rfl | cases h1
    simp only [h1']
    walk_at "wp"
    exact ret_here h
  | bl b => simp only [isD]; walk_at "wp"; exact ret_here h
  | non => simp only [isD]; walk_at "wp"; exact ret_here h
  | str z => simp only [isD]; walk_at "wp"; exact ret_here h
  | tup z => simp only [isD]; walk_at "wp"; exact ret_here h
  | rol z => simp only [isD]; walk_at "wp"; exact ret_here h
  | fl z => simp only [isD]; walk_at "wp"; exact ret_here h
  | rod _ z => simp only [isD]; walk_at "wp"; exact ret_here h
  | ptp z => obtain ⟨b, h1, _⟩ := hx; cases h1
def isG2 (A : AH) (x : D) : Prop := isG A x ∧ ∀ ds, x = .tup ds → ∀ d ∈ ds, isG A d
theorem is_stretch_any {G : Gm} (hG1 : G.fn 1 = some ⟨3, 3, IR.is_whole⟩) (hG : G.fn 2 = some ⟨1, 1, IR.is_stretch⟩) (n : Nat) (x : D) {A : AH} {Q : QE} {E : XQ} (hx : isG2 A x) (h : Q (.bl (stretchD x)) A) : callN G (n + 2) 2 [x] A Q E := by
  refine callN_mk hG rfl ?_
  unfold IR.is_stretch
  walk_at "wp"
  have non : ∀ (P : QE), stretchD x = false → isD .tuple A x = some false → (match isD .tuple A x with | some b => (endP Q E).rt (.bl false) A | none => False) := by
    intro P e e2
    rw [e2]
    rw [e] at h; exact ret_here h
  cases x with
  | tup ds =>
    simp only [isD]
    walk_at "wp"
    match ds, hx.2 ds rfl with
    | [], _ => walk_at "wp"; exact ret_here h
    | [a], _ => walk_at "wp"; rw [if_pos (by rfl)]; exact ret_here (by cases a <;> exact h)
    | a :: b :: c :: r, _ =>
      have e : decide ((((r.length + 1 + 1 + 1 : Nat)) : Int) = 2) = false := decide_eq_false (by omega)
      walk_at "wp"
      simp only [e]
      walk_at "wp"
      refine ret_here ?_
      rw [show stretchD (.tup (a :: b :: c :: r)) = false by cases a <;> cases b <;> rfl] at h
      exact h
    | [a, b], hg =>
      walk_at "wp"
      rw [if_neg (by decide)]
      simp only [x_ixT (atI0 _ _), x_ixT (atI1 _ _ _)]
      refine is_whole_any hG1 n a 0 (100 - 1) (hg a (by simp)) ?_
      walk_at "wp"
      cases a with
      | int i =>
        have ew : wholeD (.int i) 0 (100 - 1) = (decide (0 ≤ i) && decide (i ≤ 100 - 1)) := rfl
        rcases Bool.eq_false_or_eq_true (decide (0 ≤ i) && decide (i ≤ 100 - 1)) with e | e
        rotate_left
        · rw [if_pos (by rw [ew, e]; rfl)]
          refine ret_here ?_
          have : stretchD (.tup [.int i, b]) = false := by
            unfold stretchD
            cases b <;> try rfl
            simp only [pr1]
            unfold stB
            dsimp only
            rw [Bool.eq_false_iff]; intro hh; simp at hh e; omega
          rw [this] at h; exact h
        · rw [if_neg (by rw [ew, e]; decide)]
          walk_at "wp"
          refine is_whole_any hG1 n b (i + 1) 100 (hg b (by simp)) ?_
          refine ret_here ?_
          have : stretchD (.tup [.int i, b]) = wholeD b (i + 1) 100 := by
            unfold stretchD wholeD
            cases b <;> try rfl
            simp only [pr1]
            unfold stB
            dsimp only
            rw [show (decide (0 ≤ i) && decide (i ≤ 99)) = true from e, Bool.true_and]
          rw [this] at h; exact h
      | _ => simp only [wholeD]; walk_at "wp"; exact ret_here h
  | ref a =>
    have h3' : isD .tuple A (.ref a) = some false := by
      obtain ⟨⟨b, h1, h2, h3⟩, _⟩ := hx
      simp only [isD] at h1 ⊢; split at h1 <;> first | rfl | cases h1
    simp only [h3']; walk_at "wp"; exact ret_here h
  | ptp z => obtain ⟨⟨b, h1, _⟩, _⟩ := hx; cases h1
  | _ => simp only [isD]; walk_at "wp"; exact ret_here h
theorem okF_adj : ∀ {l : PL}, (∀ p ∈ l, okSt p) → adjB l = true → ∀ lo, (∀ p r, l = p :: r → lo ≤ p.1) → okF lo l
  | [], _, _, _, _ => True.intro
  | [p], h, _, lo, hl => by
    have := h p List.mem_cons_self
    exact ⟨hl p [] rfl, this.2.1, this.2.2, True.intro⟩
  | p :: q :: r, h, ha, lo, hl => by
    have := h p List.mem_cons_self
    have e : adjB (p :: q :: r) = (decide (p.2 < q.1) && adjB (q :: r)) := rfl
    rw [e, Bool.and_eq_true, decide_eq_true_eq] at ha
    refine ⟨hl p _ rfl, this.2.1, this.2.2, okF_adj (fun x hx => h x (List.mem_cons_of_mem _ hx)) ha.2 _ fun p' r' e' => ?_⟩
    rw [← (List.cons.inj e').1]
    omega
theorem adj_okF : ∀ {l : PL} {lo : Int}, okF lo l → adjB l = true
  | [], _, _ => rfl
  | [p], _, _ => rfl
  | p :: q :: r, lo, ⟨a, b, c, d⟩ => by
    show (decide (p.2 < q.1) && adjB (q :: r)) = true
    have hq : p.2 + 1 ≤ q.1 := d.1
    rw [adj_okF d, decide_eq_true (by omega)]; rfl
theorem spreadD_ok {l : PL} : spreadD (spd l) = true ↔ okF 0 l := by
  unfold spreadD spd
  simp only [alls_prs]
  rw [Bool.and_eq_true, List.all_eq_true]
  constructor
  · rintro ⟨h1, h2⟩
    exact okF_adj (fun p hp => stB_ok.mp (h1 p hp)) h2 0 fun p r e => (stB_ok.mp (h1 p (by rw [e]; exact List.mem_cons_self))).1
  · intro h
    exact ⟨fun p hp => stB_ok.mpr (okF_st h (Int.le_refl _) p hp), adj_okF h⟩
theorem alls_some {ds : List D} {l : PL} (h : alls pr1 ds = some l) : ds = prs l := by
  induction ds generalizing l with
  | nil => cases h; rfl
  | cons d r ih =>
    unfold alls at h
    split at h
    · next x xs e1 e2 =>
      cases h
      rw [ih e2]
      have : d = prD x := by
        unfold pr1 at e1
        split at e1
        · cases e1; rfl
        · cases e1
      rw [this]; rfl
    · cases h
theorem alls_st {ds : List D} (h : ds.all stretchD = true) : ∃ l : PL, ds = prs l ∧ ∀ p ∈ l, okSt p := by
  induction ds with
  | nil => exact ⟨[], rfl, by simp⟩
  | cons d r ih =>
    rw [List.all_cons, Bool.and_eq_true] at h
    obtain ⟨l, e, hl⟩ := ih h.2
    unfold stretchD at h
    revert h
    cases e1 : pr1 d with
    | none => intro h; cases h.1
    | some p =>
      intro h
      have : d = prD p := by
        unfold pr1 at e1
        split at e1
        · cases e1; rfl
        · cases e1
      refine ⟨p :: l, by rw [e, this]; rfl, fun q hq => ?_⟩
      rcases List.mem_cons.mp hq with rfl | hq
      · exact stB_ok.mp h.1
      · exact hl q hq
theorem spreadD_all {ds : List D} (h : ds.all stretchD = false) : spreadD (.tup ds) = false := by
  unfold spreadD
  dsimp only
  cases e : alls pr1 ds with
  | none => rfl
  | some l =>
    dsimp only
    rw [Bool.eq_false_iff] at h ⊢
    intro hh
    refine h ?_
    rw [alls_some e]
    rw [Bool.and_eq_true, List.all_eq_true] at hh
    rw [List.all_eq_true]
    intro x hx
    obtain ⟨p, hp, rfl⟩ := List.mem_map.mp hx
    exact hh.1 p hp
theorem is_spread_any {G : Gm} (hG1 : G.fn 1 = some ⟨3, 3, IR.is_whole⟩) (hG2 : G.fn 2 = some ⟨1, 1, IR.is_stretch⟩) (hG : G.fn 3 = some ⟨1, 3, IR.is_spread⟩) (n : Nat) (x : D) {A : AH} {Q : QE} {E : XQ} (hx : isG2 A x) (hx2 : ∀ ds, x = .tup ds → ds.length ≤ 100000 ∧ ∀ d ∈ ds, isG2 A d) (h : Q (.bl (spreadD x)) A) : callN G (n + 3) 3 [x] A Q E := by
  refine callN_mk hG rfl ?_
  unfold IR.is_spread
  walk_at "wp"
  cases x with
  | tup ds =>
    obtain ⟨hz, hd⟩ := hx2 ds rfl
    simp only [isD]
    walk_at "wp"
    refine ⟨Nat.le_trans hz (by decide), ?_⟩
    refine comp_map (f := fun d => .bl (stretchD d)) True.intro (fun x hx R hr => ?_) ?_
    · walk_at "wp"
      exact is_stretch_any hG1 hG2 n x (hd x hx) hr
    · intro p np
      rw [List.nil_append, show ds.map (fun d => D.bl (stretchD d)) = (ds.map stretchD).map D.bl by rw [List.map_map]; rfl, x_all up_same]
      walk_at "wp"
      rw [List.all_map]
      rcases Bool.eq_false_or_eq_true (ds.all (id ∘ stretchD)) with e | e
      · rw [if_neg (by rw [e]; decide)]
        obtain ⟨l, rfl, hl⟩ := alls_st e
        rw [List.length_map] at hz
        rw [cut_init, show cutL (prs l) (some 1) none = (prs l).tail from cut_tail _]
        have el : (List.zipWith (fun x y => D.tup [x, y]) (prs l).dropLast (prs l).tail) = (List.zipWith (fun x y => (x, y)) l.dropLast l.tail).map fun q : (Int × Int) × (Int × Int) => D.tup [prD q.1, prD q.2] := by
          rw [prs, ← List.map_dropLast, ← List.map_tail, List.zipWith_map, List.map_zipWith]
        rw [el]
        refine ⟨?_, ?_⟩
        · rw [List.length_map, List.length_zipWith, List.length_dropLast, List.length_tail]
          exact Nat.le_trans (by omega : _ ≤ 100000) (by decide)
        refine comp_map (f := fun d => match d with | .tup [.tup [_, .int b], .tup [.int c, _]] => .bl (decide (b < c)) | _ => .non) True.intro (fun x hx R hr => ?_) ?_
        · obtain ⟨q, _, rfl⟩ := List.mem_map.mp hx
          simp only [prD_eq] at hr ⊢
          walk_at "wp"
          simp only [x_ixT (atI0 _ _), x_ixT (atI1 _ _ _)]
          walk_at "wp"
          exact hr
        · intro q nq
          rw [List.nil_append]
          have e3 : ((List.zipWith (fun x y => (x, y)) l.dropLast l.tail).map fun q : (Int × Int) × (Int × Int) => D.tup [prD q.1, prD q.2]).map (fun d => match d with | .tup [.tup [_, .int b], .tup [.int c, _]] => D.bl (decide (b < c)) | _ => .non) = (List.zipWith (fun p q : Int × Int => decide (p.2 < q.1)) l.dropLast l.tail).map D.bl := by
            rw [List.map_map, List.map_zipWith, List.map_zipWith]; rfl
          rw [e3, x_all up_same]
          refine ret_at (sub_up2 np nq) ?_
          have : spreadD (.tup (prs l)) = adjB l := by
            unfold spreadD
            simp only [alls_prs]
            rw [show l.all stB = true from List.all_eq_true.mpr fun p hp => stB_ok.mpr (hl p hp), Bool.true_and]
          rw [this] at h
          exact h
      · rw [if_pos (by rw [e]; rfl)]
        refine ret_at (Sub.new np) ?_
        rw [spreadD_all e] at h
        exact h
  | ref a =>
    have h3' : isD .tuple A (.ref a) = some false := by
      obtain ⟨⟨b, h1, h2, h3⟩, _⟩ := hx
      simp only [isD] at h1 ⊢; split at h1 <;> first | rfl | cases h1
    simp only [h3']; walk_at "wp"; exact ret_here h
  | ptp z => obtain ⟨⟨b, h1, _⟩, _⟩ := hx; cases h1
  | _ => simp only [isD]; walk_at "wp"; exact ret_here h
theorem isG_int {A : AH} {i : Int} : isG A (.int i) := ⟨_, rfl, rfl, rfl⟩
theorem isG_tup {A : AH} {ds : List D} : isG A (.tup ds) := ⟨_, rfl, rfl, rfl⟩
theorem isG2_pr {A : AH} {p : Int × Int} : isG2 A (prD p) := ⟨isG_tup, fun ds e d hd => by
  cases e
  simp only [List.mem_cons, List.not_mem_nil, or_false] at hd
  rcases hd with rfl | rfl <;> exact isG_int⟩
theorem is_spread_spd {G : Gm} (hG1 : G.fn 1 = some ⟨3, 3, IR.is_whole⟩) (hG2 : G.fn 2 = some ⟨1, 1, IR.is_stretch⟩) (hG : G.fn 3 = some ⟨1, 3, IR.is_spread⟩) (n : Nat) {l : PL} (hl : okF 0 l) {A : AH} {Q : QE} {E : XQ} (h : Q (.bl true) A) : callN G (n + 3) 3 [spd l] A Q E := by
  have hlen := okF_len hl (by decide)
  refine is_spread_any hG1 hG2 hG n _ ⟨isG_tup, fun ds e d hd => ?_⟩ (fun ds e => ?_) (by rw [spreadD_ok.mpr hl]; exact h)
  · cases e; obtain ⟨p, _, rfl⟩ := List.mem_map.mp hd; exact isG2_pr.1
  · cases e; exact ⟨by rw [List.length_map]; omega, fun d hd => by obtain ⟨p, _, rfl⟩ := List.mem_map.mp hd; exact isG2_pr⟩
/-! keys_of -/
theorem keysOf_cons (p : Int × Int) (r : PL) : keysOf (p :: r) = rgI p.1 p.2 ++ keysOf r := by unfold keysOf; rw [List.flatMap_cons]
theorem keysOf_app (l m : PL) : keysOf (l ++ m) = keysOf l ++ keysOf m := by unfold keysOf; rw [List.flatMap_append]
theorem keysOf_bound {l : PL} (h : ∀ p ∈ l, okSt p) : (keysOf l).length ≤ 100 * l.length := by
  induction l with
  | nil => exact Nat.le_refl _
  | cons p r ih =>
    rw [keysOf_cons, List.length_append, List.length_cons]
    have := ih fun q hq => h q (List.mem_cons_of_mem _ hq)
    have h1 := rgI_len p.1 p.2
    have h2 := h p List.mem_cons_self
    have := h2.1; have := h2.2.1; have := h2.2.2
    rw [if_pos (by omega)] at h1
    omega
theorem keys_loop {c : CallT} {G : Gm} {p : Addr} {x0 : Option D} {P : Pst} {A0 : AH} (np : A0 p = none) : ∀ (rest : PL) (acc : List Int) (A : AH) (d2 d3 : Option D), (∀ p ∈ rest, okSt p) → DL.Sub (up A0 p (.lst (acc.map .int))) A → acc.length + 100 * rest.length < sizeLine →
    (∀ d2 d3 A, DL.Sub (up A0 p (.lst ((acc ++ keysOf rest).map .int))) A → P.nx [x0, some (.ref p), d2, d3] A) → dFor (.tp [.nm 2, .nm 3]) (fun _ => True) (wpSs c G IR.keys_of_b1) (prs rest) P [x0, some (.ref p), d2, d3] A
  | [], acc, A, d2, d3, _, hs, _, h => ⟨True.intro, h _ _ _ (by rw [show keysOf [] = [] from rfl, List.append_nil]; exact hs)⟩
  | y :: rest, acc, A, d2, d3, hr, hs, hz, h => by
    rw [prs, List.map_cons, for_cons, prD_eq]
    refine ⟨True.intro, ?_⟩
    have hy := hr y List.mem_cons_self
    have := hy.1; have := hy.2.1; have := hy.2.2
    have hl := rgI_len y.1 y.2
    rw [if_pos (by omega)] at hl
    rw [List.length_cons] at hz
    unfold IR.keys_of_b1
    walk_at "wp"
    rw [x_isL (gr_t hs)]
    refine ⟨True.intro, ⟨by omega, by omega, by omega, by omega, by omega⟩, ?_⟩
    intro q nq
    have hpq : p ≠ q := ne_free (gr_t hs) nq
    have e1 : up A q (.lst (rgD y.1 y.2)) p = some (.lst (acc.map .int)) := by rw [up_ne hpq]; exact gr_t hs
    rw [rgD_eq] at e1 ⊢
    walk_at "wp"
    rw [x_ext e1 up_same]
    refine ⟨by rw [List.length_map, List.length_map]; omega, ?_⟩
    have hs2 := gr_up (u := .lst ((acc ++ rgI y.1 y.2).map .int)) (gr_new (o := .lst ((rgI y.1 y.2).map .int)) hs nq)
    rw [List.map_append] at hs2
    refine keys_loop np rest (acc ++ rgI y.1 y.2) _ _ _ (fun q hq => hr q (List.mem_cons_of_mem _ hq)) ?_ (by rw [List.length_append]; omega) fun d2 d3 A' hs' => ?_
    · rw [List.map_append]; exact hs2
    · refine h d2 d3 A' ?_
      rw [keysOf_cons, ← List.append_assoc]; exact hs'
theorem keys_of_tup {G : Gm} (hG : G.fn 8 = some ⟨1, 4, IR.keys_of⟩) (n : Nat) (l : PL) (hl : ∀ p ∈ l, okSt p) (hz : l.length < 100000) {A : AH} {Q : QE} {E : XQ} (h : Q (.tup ((keysOf l).map .int)) A) : callN G (n + 1) 8 [spd l] A Q E := by
  refine callN_mk hG rfl ?_
  unfold IR.keys_of
  walk_at "wp"
  intro p np
  walk_at "wp"
  refine keys_loop np l [] _ none none hl (DL.Sub.refl _) (by show 0 + 100 * l.length < 2 ^ 24; omega) fun d2 d3 A' hs => ?_
  walk_at "wp"
  rw [x_tupL (gr_t hs)]
  exact ret_at ((DL.Sub.new np).trans hs) h
end DP

set_option Elab.async false
set_option linter.all false
set_option maxRecDepth 100000
namespace DP
open DL PySem
open L2 hiding prD
local macro_rules | `(tactic| walk_at "wp") => `(tactic| try simp only [startD, List.map_cons, List.map_nil, List.length_cons, List.length_nil, Nat.zero_add, Nat.reduceAdd, Nat.reduceSub, List.replicate_succ, List.replicate_zero, List.cons_append, List.nil_append, List.set_cons_zero, List.set_cons_succ, setAll, wipeD,
  wq_var0, wq_var1, wq_var2, wq_var3, wq_var4, wq_var5, wq_var6, wq_var7, wq_var8, wq_var9, wq_var10, wq_var11, wq_var12, wq_var13, wq_var14, wq_var15, wq_cst, wq_tup, wq_lst, wq_bin, wq_neg, wq_cmp, wq_chn, wq_isn, wq_isb, wq_notv, wq_andv, wq_orv, wq_ite, wq_call, wq_bi, wq_isi, wq_rgl, wq_ix, wq_cut, wq_rev, wq_comp, wq_bm, wq_nil, wq_cons, wq_on, wq_os, wq_val, wq_and, wq_or, wq_not, wq_yes, wq_snil, wq_scons, wq_set, wq_tset, wq_par, wq_sub, wq_expr, wq_if, wq_for, wq_whil, wq_ret, wq_pass, wq_cont, end_rt, end_nx,
  x_addI, x_addT, x_addS, x_sub, x_mul, x_fdiv, x_mod, x_lt, x_le, x_gt, x_ge, x_eqI, x_neI, x_bTst, x_truB, x_truN, x_truI, x_truT, x_truR, x_lenT, x_lenR, x_tupT, x_lstT, x_min2, x_max2, x_intB, x_intI, x_cutT, x_revT, x_srcT, x_srcR, x_rng1, x_rng2, x_zip, x_rgl1, x_rgl2, g_nm, g_tp, g_cons, g_nil, ty_app, ty_ext, ty_pop, ty_popi, if_true, if_false, Bool.false_eq_true, Bool.true_eq_false, Bool.not_true, Bool.not_false, len2_ok, len0_ok, true_and, isNonD])

theorem x_eqB {a b : Bool} {A : AH} {Q : QE} : dCmp .eq (.bl a) (.bl b) A Q = Q (.bl (a == b)) A := by cases a <;> cases b <;> rfl
mutual
def smp : Nat → D → Prop
  | _, .non => True
  | _, .bl _ => True
  | _, .int _ => True
  | n + 1, .tup ds => ds.length ≤ 100000 ∧ smps n ds
  | _, _ => False
def smps : Nat → List D → Prop
  | _, [] => True
  | n, d :: ds => smp n d ∧ smps n ds
end
theorem smps_iff {n : Nat} {ds : List D} : smps n ds ↔ ∀ d ∈ ds, smp n d := by
  induction ds with
  | nil => simp [smps]
  | cons d r ih => simp [smps, ih]
theorem same_refl {G : Gm} (hG : G.fn 101 = some ⟨2, 4, IR.law_same⟩) : ∀ (n : Nat) (d : D) {A : AH} {Q : QE} {E : XQ}, smp n d → Q (.bl true) A → callN G (n + 1) 101 [d, d] A Q E
  | n, .non, A, Q, E, hs, h => by
    refine callN_mk hG rfl ?_
    unfold IR.law_same
    walk_at "wp"
    exact ret_here h
  | n, .bl b, A, Q, E, hs, h => by
    refine callN_mk hG rfl ?_
    unfold IR.law_same
    walk_at "wp"
    simp only [isD]
    walk_at "wp"
    rw [x_eqB]
    walk_at "wp"
    refine ret_here ?_
    rw [beq_self_eq_true]; exact h
  | n, .int i, A, Q, E, hs, h => by
    refine callN_mk hG rfl ?_
    unfold IR.law_same
    walk_at "wp"
    simp only [isD]
    walk_at "wp"
    refine ret_here ?_
    rw [decide_true]; exact h
  | n + 1, .tup ds, A, Q, E, hs, h => by
    obtain ⟨hz, hs⟩ := hs
    have hs := smps_iff.mp hs
    refine callN_mk hG rfl ?_
    unfold IR.law_same
    walk_at "wp"
    simp only [isD]
    walk_at "wp"
    rw [if_neg (by simp)]
    have ez : List.zipWith (fun x y => D.tup [x, y]) ds ds = ds.map fun x => D.tup [x, x] := by rw [List.zipWith_self]
    rw [ez]
    refine ⟨by rw [List.length_map]; exact Nat.le_trans hz (by decide), ?_⟩
    refine comp_map (f := fun _ => .bl true) True.intro (fun x hx R hr => ?_) ?_
    · obtain ⟨y, hy, rfl⟩ := List.mem_map.mp hx
      walk_at "wp"
      exact same_refl hG n y (hs y hy) hr
    · intro p np
      rw [List.nil_append, List.map_map, show ds.map ((fun _ => D.bl true) ∘ fun x => D.tup [x, x]) = (ds.map fun _ => true).map D.bl by rw [List.map_map]; rfl, x_all up_same]
      refine ret_at (Sub.new np) ?_
      rw [show (ds.map fun _ => true).all id = true by rw [List.all_map]; exact List.all_eq_true.mpr fun _ _ => rfl]
      exact h
  | 0, .tup ds, _, _, _, hs, _ => by cases hs
  | 0, .str ds, _, _, _, hs, _ => by cases hs
  | 0, .rol ds, _, _, _, hs, _ => by cases hs
  | 0, .ref ds, _, _, _, hs, _ => by cases hs
  | n + 1, .str ds, _, _, _, hs, _ => by cases hs
  | n + 1, .rol ds, _, _, _, hs, _ => by cases hs
  | n + 1, .ref ds, _, _, _, hs, _ => by cases hs
theorem smp_int {n : Nat} {i : Int} : smp n (.int i) := by cases n <;> exact True.intro
theorem smp_bl {n : Nat} {i : Bool} : smp n (.bl i) := by cases n <;> exact True.intro
theorem smp_pr {n : Nat} {p : Int × Int} : smp (n + 1) (prD p) := ⟨by show 2 ≤ 100000; decide, smp_int, smp_int, by unfold smps; trivial⟩
theorem smp_spd {n : Nat} {l : PL} (h : l.length ≤ 100000) : smp (n + 2) (spd l) := ⟨by rw [List.length_map]; exact h, smps_iff.mpr fun d hd => by obtain ⟨p, _, rfl⟩ := List.mem_map.mp hd; exact smp_pr⟩
theorem smp_ints {n : Nat} {l : List Int} (h : l.length ≤ 100000) : smp (n + 1) (.tup (l.map .int)) := ⟨by rw [List.length_map]; exact h, smps_iff.mpr fun d hd => by obtain ⟨p, _, rfl⟩ := List.mem_map.mp hd; exact smp_int⟩
theorem smp_bls {n : Nat} {l : List Bool} (h : l.length ≤ 100000) : smp (n + 1) (.tup (l.map .bl)) := ⟨by rw [List.length_map]; exact h, smps_iff.mpr fun d hd => by obtain ⟨p, _, rfl⟩ := List.mem_map.mp hd; exact smp_bl⟩
theorem same_ok {G : Gm} (hG : G.fn 101 = some ⟨2, 4, IR.law_same⟩) (n : Nat) {d e : D} {A : AH} {Q : QE} {E : XQ} (he : d = e) (hs : smp n d) (h : Q (.bl true) A) : callN G (n + 1) 101 [d, e] A Q E := he ▸ same_refl hG n d hs h
end DP

set_option Elab.async false
set_option linter.all false
set_option maxRecDepth 100000
namespace DP
open DL PySem
open L2 hiding prD
local macro_rules | `(tactic| walk_at "wp") => `(tactic| try simp only [startD, List.map_cons, List.map_nil, List.length_cons, List.length_nil, Nat.zero_add, Nat.reduceAdd, Nat.reduceSub, List.replicate_succ, List.replicate_zero, List.cons_append, List.nil_append, List.set_cons_zero, List.set_cons_succ, setAll, wipeD,
  wq_var0, wq_var1, wq_var2, wq_var3, wq_var4, wq_var5, wq_var6, wq_var7, wq_var8, wq_var9, wq_var10, wq_var11, wq_var12, wq_var13, wq_var14, wq_var15, wq_cst, wq_tup, wq_lst, wq_bin, wq_neg, wq_cmp, wq_chn, wq_isn, wq_isb, wq_notv, wq_andv, wq_orv, wq_ite, wq_call, wq_bi, wq_isi, wq_rgl, wq_ix, wq_cut, wq_rev, wq_comp, wq_bm, wq_nil, wq_cons, wq_on, wq_os, wq_val, wq_and, wq_or, wq_not, wq_yes, wq_snil, wq_scons, wq_set, wq_tset, wq_par, wq_sub, wq_expr, wq_if, wq_for, wq_whil, wq_ret, wq_pass, wq_cont, end_rt, end_nx,
  x_addI, x_addT, x_addS, x_sub, x_mul, x_fdiv, x_mod, x_lt, x_le, x_gt, x_ge, x_eqI, x_neI, x_bTst, x_truB, x_truN, x_truI, x_truT, x_truR, x_lenT, x_lenR, x_tupT, x_lstT, x_min2, x_max2, x_intB, x_intI, x_cutT, x_revT, x_srcT, x_srcR, x_rng1, x_rng2, x_zip, x_rgl1, x_rgl2, g_nm, g_tp, g_cons, g_nil, ty_app, ty_ext, ty_pop, ty_popi, if_true, if_false, Bool.false_eq_true, Bool.true_eq_false, Bool.not_true, Bool.not_false, len2_ok, len0_ok, true_and, isNonD])

/-- a comprehension with a test that reads only, whose element is a function of the item -/
theorem comp_sel {tg : Tg} {g : AH → Prop} {t : WT} {e : WE} {δ : DSt} {A : AH} {Q : QE} {f : D → D} {b : D → Bool} (hg : g A) : ∀ {xs acc : List D}, (∀ x ∈ xs, ∀ (R1 : QE) (R2 : AH → Prop), (b x = true → R1 (f x) A) → (b x = false → R2 A) → gAsg tg x δ A fun δ' => t δ' A (fun b A1 => if b = true then e δ' A1 R1 (fun _ _ => False) else R2 A1) fun _ _ => False) → newL A (acc ++ (xs.filter b).map f) Q → dComp tg g t e δ xs acc A Q
  | [], acc, _, h => by rw [List.filter_nil, List.map_nil, List.append_nil] at h; exact ⟨hg, h⟩
  | x :: xs, acc, he, h => by
    refine ⟨hg, ?_⟩
    refine he x List.mem_cons_self (fun y A2 => dComp tg g t e δ xs (acc ++ [y]) A2 Q) (fun A1 => dComp tg g t e δ xs acc A1 Q) (fun hb => ?_) (fun hb => ?_)
    · refine comp_sel hg (fun y hy => he y (List.mem_cons_of_mem _ hy)) ?_
      rw [List.filter_cons_of_pos hb, List.map_cons] at h
      rw [List.append_assoc]; exact h
    · refine comp_sel hg (fun y hy => he y (List.mem_cons_of_mem _ hy)) ?_
      rw [List.filter_cons_of_neg (by rw [hb]; decide)] at h
      exact h
theorem inV_ints (k : Int) (ks : List Int) : inV (flV (.int k)) ((ks.map D.int).map flV) = decide (k ∈ ks) := by
  unfold inV
  rw [List.map_map, List.any_map, Bool.eq_iff_iff, List.any_eq_true, decide_eq_true_eq]
  constructor
  · rintro ⟨x, hx, h⟩
    have : x = k := by simpa [flV, eqV] using h
    exact this ▸ hx
  · intro h
    exact ⟨k, h, by simp [flV, eqV]⟩
theorem flat_ints (ks : List Int) : (ks.map D.int).all flatD = true := by
  rw [List.all_map]; exact List.all_eq_true.mpr fun _ _ => rfl
theorem x_innL {a : Addr} {ks : List Int} {k : Int} {A : AH} {Q : QE} (h : A a = some (.lst (ks.map .int))) : dCmp .inn (.int k) (.ref a) A Q = Q (.bl (decide (k ∈ ks))) A := by
  simp only [dCmp, seq_ref h, flat_ints, inV_ints, flatD, true_and]
theorem x_innT {ks : List Int} {k : Int} {A : AH} {Q : QE} : dCmp .inn (.int k) (.tup (ks.map .int)) A Q = Q (.bl (decide (k ∈ ks))) A := by
  simp only [dCmp, seq_tup, flat_ints, inV_ints, flatD, true_and]
theorem kp_new {A : AH} {a p : Addr} {o u : AO} (h : A a = some o) (hp : A p = none) : up A p u a = some o := by rw [up_ne (ne_free h hp)]; exact h
theorem kp_up {A : AH} {a t : Addr} {o u : AO} (h : A a = some o) (hp : a ≠ t) : up A t u a = some o := by rw [up_ne hp]; exact h
theorem x_isbT {b : Bool} {A : AH} {Q : QE} : (match D.bl b, D.bl true with | .bl k, .bl l => Q (.bl (if true = true then !decide (k = l) else decide (k = l))) A | _, _ => False) = Q (.bl (!b)) A := by cases b <;> rfl
theorem rev_perm (xs : PL) (n : Nat) : ((xs.drop n).reverse ++ xs.take n).Perm xs :=
  ((List.reverse_perm _).append_right _).trans (List.perm_append_comm.trans (by rw [List.take_append_drop]))
theorem cut_to' {α : Type} (xs : List α) {n : Nat} : cutL xs none (some (n : Int)) = xs.take n := by
  by_cases h : n ≤ xs.length
  · exact cut_to xs h
  · rw [List.take_of_length_le (by omega)]
    unfold cutL
    rw [show HT.sIx xs.length 0 none = 0 from rfl, HT.sIx_nat, List.drop_zero, List.take_of_length_le (by omega)]
end DP

set_option Elab.async false
set_option linter.all false
set_option maxRecDepth 100000
namespace DP
open DL PySem
open L2 hiding prD
local macro_rules | `(tactic| walk_at "wp") => `(tactic| try simp only [startD, List.map_cons, List.map_nil, List.length_cons, List.length_nil, Nat.zero_add, Nat.reduceAdd, Nat.reduceSub, List.replicate_succ, List.replicate_zero, List.cons_append, List.nil_append, List.set_cons_zero, List.set_cons_succ, setAll, wipeD,
  wq_var0, wq_var1, wq_var2, wq_var3, wq_var4, wq_var5, wq_var6, wq_var7, wq_var8, wq_var9, wq_var10, wq_var11, wq_var12, wq_var13, wq_var14, wq_var15, wq_cst, wq_tup, wq_lst, wq_bin, wq_neg, wq_cmp, wq_chn, wq_isn, wq_isb, wq_notv, wq_andv, wq_orv, wq_ite, wq_call, wq_bi, wq_isi, wq_rgl, wq_ix, wq_cut, wq_rev, wq_comp, wq_bm, wq_nil, wq_cons, wq_on, wq_os, wq_val, wq_and, wq_or, wq_not, wq_yes, wq_snil, wq_scons, wq_set, wq_tset, wq_par, wq_sub, wq_expr, wq_if, wq_for, wq_whil, wq_ret, wq_pass, wq_cont, end_rt, end_nx,
  x_addI, x_addT, x_addS, x_sub, x_mul, x_fdiv, x_mod, x_lt, x_le, x_gt, x_ge, x_eqI, x_neI, x_bTst, x_truB, x_truN, x_truI, x_truT, x_truR, x_lenT, x_lenR, x_tupT, x_lstT, x_min2, x_max2, x_intB, x_intI, x_cutT, x_revT, x_srcT, x_srcR, x_rng1, x_rng2, x_zip, x_rgl1, x_rgl2, g_nm, g_tp, g_cons, g_nil, ty_app, ty_ext, ty_pop, ty_popi, if_true, if_false, Bool.false_eq_true, Bool.true_eq_false, Bool.not_true, Bool.not_false, len2_ok, len0_ok, true_and, isNonD])

/-! equality of trees of ints -/
mutual
def itr : Nat → D → Prop
  | _, .int _ => True
  | n + 1, .tup ds => itrs n ds
  | _, _ => False
def itrs : Nat → List D → Prop
  | _, [] => True
  | n, d :: ds => itr n d ∧ itrs n ds
end
theorem itrs_iff {n : Nat} {ds : List D} : itrs n ds ↔ ∀ d ∈ ds, itr n d := by
  induction ds with
  | nil => simp [itrs]
  | cons d r ih => simp [itrs, ih]
theorem itr_int {n : Nat} {i : Int} : itr n (.int i) := by cases n <;> exact True.intro
theorem itr_pr {n : Nat} {p : Int × Int} : itr (n + 1) (prD p) := ⟨itr_int, itr_int, by unfold itrs; trivial⟩
theorem itr_prs {n : Nat} {l : PL} : itrs (n + 1) (prs l) := itrs_iff.mpr fun d hd => by obtain ⟨p, _, rfl⟩ := List.mem_map.mp hd; exact itr_pr
theorem itr_spd {n : Nat} {l : PL} : itr (n + 2) (spd l) := itr_prs
theorem itr_ints {n : Nat} {l : List Int} : itrs n (l.map D.int) := itrs_iff.mpr fun d hd => by obtain ⟨p, _, rfl⟩ := List.mem_map.mp hd; exact itr_int
theorem itr_tupI {n : Nat} {l : List Int} : itr (n + 1) (.tup (l.map D.int)) := itr_ints
def EqP (A : AH) (m : Nat) (d e : D) : Prop := ∃ p q, pd A m d = some p ∧ pd A m e = some q ∧ (PyData.eqv p q = true ↔ d = e)
theorem pds_some {A : AH} {m : Nat} (ih : ∀ d e, itr m d → itr m e → EqP A m d e) : ∀ (ds : List D), itrs m ds → ∃ ps, pds (pd A m) ds = some ps
  | [], _ => ⟨[], rfl⟩
  | d :: ds, hd => by
    obtain ⟨p, q, h1, h2, _⟩ := ih d d hd.1 hd.1
    obtain ⟨ps, h3⟩ := pds_some ih ds hd.2
    exact ⟨p :: ps, by simp only [pds, h1, h3]⟩
theorem eqps {A : AH} {m : Nat} (ih : ∀ d e, itr m d → itr m e → EqP A m d e) : ∀ (ds es : List D), itrs m ds → itrs m es → ∃ ps qs, pds (pd A m) ds = some ps ∧ pds (pd A m) es = some qs ∧ (PyData.eqvAll ps qs = true ↔ ds = es)
  | [], [], _, _ => ⟨[], [], rfl, rfl, by simp [PyData.eqvAll]⟩
  | [], e :: es, _, he => by
    obtain ⟨_, q, _, h2, _⟩ := ih e e he.1 he.1
    obtain ⟨qs, h4⟩ := pds_some ih es he.2
    exact ⟨[], q :: qs, rfl, by simp only [pds, h2, h4], by simp [PyData.eqvAll]⟩
  | d :: ds, [], hd, _ => by
    obtain ⟨_, q, _, h2, _⟩ := ih d d hd.1 hd.1
    obtain ⟨qs, h4⟩ := pds_some ih ds hd.2
    exact ⟨q :: qs, [], by simp only [pds, h2, h4], rfl, by simp [PyData.eqvAll]⟩
  | d :: ds, e :: es, hd, he => by
    obtain ⟨p, q, h1, h2, h⟩ := ih d e hd.1 he.1
    obtain ⟨ps, qs, h3, h4, h5⟩ := eqps ih ds es hd.2 he.2
    exact ⟨p :: ps, q :: qs, by simp only [pds, h1, h3], by simp only [pds, h2, h4], by simp [PyData.eqvAll, h, h5]⟩
theorem eqp {A : AH} : ∀ (m : Nat) (d e : D), itr m d → itr m e → EqP A m d e
  | m, .int i, .int j, _, _ => ⟨.int i, .int j, by cases m <;> rfl, by cases m <;> rfl, by simp [PyData.eqv]⟩
  | m + 1, .int i, .tup es, _, he => by
    obtain ⟨_, qs, _, h4, _⟩ := eqps (A := A) (eqp m) es es he he
    exact ⟨.int i, .tuple qs, rfl, by simp only [pd, h4]; rfl, by simp [PyData.eqv]⟩
  | m + 1, .tup es, .int i, he, _ => by
    obtain ⟨_, qs, _, h4, _⟩ := eqps (A := A) (eqp m) es es he he
    exact ⟨.tuple qs, .int i, by simp only [pd, h4]; rfl, rfl, by simp [PyData.eqv]⟩
  | m + 1, .tup ds, .tup es, hd, he => by
    obtain ⟨ps, qs, h3, h4, h5⟩ := eqps (A := A) (eqp m) ds es hd he
    exact ⟨.tuple ps, .tuple qs, by simp only [pd, h3]; rfl, by simp only [pd, h4]; rfl, by simp [PyData.eqv, h5]⟩
  | 0, .tup _, _, hd, _ => by cases hd
  | 0, .int _, .tup _, _, he => by cases he
  | 0, .int _, .non, _, he => by cases he
  | 0, .int _, .bl _, _, he => by cases he
  | 0, .int _, .str _, _, he => by cases he
  | 0, .int _, .rol _, _, he => by cases he
  | 0, .int _, .ref _, _, he => by cases he
  | n + 1, .int _, .non, _, he => by cases he
  | n + 1, .int _, .bl _, _, he => by cases he
  | n + 1, .int _, .str _, _, he => by cases he
  | n + 1, .int _, .rol _, _, he => by cases he
  | n + 1, .int _, .ref _, _, he => by cases he
  | n + 1, .tup _, .non, _, he => by cases he
  | n + 1, .tup _, .bl _, _, he => by cases he
  | n + 1, .tup _, .str _, _, he => by cases he
  | n + 1, .tup _, .rol _, _, he => by cases he
  | n + 1, .tup _, .ref _, _, he => by cases he
  | 0, .non, _, hd, _ => by cases hd
  | 0, .bl _, _, hd, _ => by cases hd
  | 0, .str _, _, hd, _ => by cases hd
  | 0, .rol _, _, hd, _ => by cases hd
  | 0, .ref _, _, hd, _ => by cases hd
  | n + 1, .non, _, hd, _ => by cases hd
  | n + 1, .bl _, _, hd, _ => by cases hd
  | n + 1, .str _, _, hd, _ => by cases hd
  | n + 1, .rol _, _, hd, _ => by cases hd
  | n + 1, .ref _, _, hd, _ => by cases hd
theorem eq_any {d e : D} {A : AH} {Q : QE} (hd : itr 6 d) (he : itr 6 e) (h : ∀ b, (b = true ↔ d = e) → Q (.bl b) A) : dCmp .eq d e A Q := by
  obtain ⟨p, q, h1, h2, h3⟩ := eqp (A := A) 6 d e hd he
  simp only [dCmp, h1, h2]
  exact h _ h3
theorem ne_any {d e : D} {A : AH} {Q : QE} (hd : itr 6 d) (he : itr 6 e) (h : ∀ b, (b = false ↔ d = e) → Q (.bl b) A) : dCmp .ne d e A Q := by
  obtain ⟨p, q, h1, h2, h3⟩ := eqp (A := A) 6 d e hd he
  simp only [dCmp, h1, h2]
  refine h _ ?_
  rw [← h3]; cases PyData.eqv p q <;> simp
theorem ne_no {d e : D} {A : AH} {Q : QE} (hd : itr 6 d) (he : d = e) (h : Q (.bl false) A) : dCmp .ne d e A Q := by
  subst he
  exact ne_any hd hd fun b hb => by rw [hb.mpr rfl]; exact h
theorem eq_yes {d e : D} {A : AH} {Q : QE} (hd : itr 6 d) (he : d = e) (h : Q (.bl true) A) : dCmp .eq d e A Q := by
  subst he
  exact eq_any hd hd fun b hb => by rw [hb.mpr rfl]; exact h
theorem neL_no {a b : Addr} {ds es : List D} {A : AH} {Q : QE} (ha : A a = some (.lst ds)) (hb : A b = some (.lst es)) (he : ds = es) (hd : itrs 5 ds) (h : Q (.bl false) A) : dCmp .ne (.ref a) (.ref b) A Q := by
  subst he
  obtain ⟨ps, qs, h3, h4, h5⟩ := eqps (A := A) (eqp 5) ds ds hd hd
  cases h3.symm.trans h4
  have e1 : pd A 6 (.ref a) = some (.list ps) := by simp only [pd, ha, h3]; rfl
  have e2 : pd A 6 (.ref b) = some (.list ps) := by simp only [pd, hb, h3]; rfl
  simp only [dCmp, e1, e2]
  rw [show PyData.eqv (.list ps) (.list ps) = true by simp only [PyData.eqv]; exact h5.mpr rfl]
  exact h
theorem eqL_yes {a b : Addr} {ds es : List D} {A : AH} {Q : QE} (ha : A a = some (.lst ds)) (hb : A b = some (.lst es)) (he : ds = es) (hd : itrs 5 ds) (h : Q (.bl true) A) : dCmp .eq (.ref a) (.ref b) A Q := by
  subst he
  obtain ⟨ps, qs, h3, h4, h5⟩ := eqps (A := A) (eqp 5) ds ds hd hd
  cases h3.symm.trans h4
  have e1 : pd A 6 (.ref a) = some (.list ps) := by simp only [pd, ha, h3]; rfl
  have e2 : pd A 6 (.ref b) = some (.list ps) := by simp only [pd, hb, h3]; rfl
  simp only [dCmp, e1, e2]
  rw [show PyData.eqv (.list ps) (.list ps) = true by simp only [PyData.eqv]; exact h5.mpr rfl]
  exact h
theorem x_neB {a b : Bool} {A : AH} {Q : QE} : dCmp .ne (.bl a) (.bl b) A Q = Q (.bl (a != b)) A := by cases a <;> cases b <;> rfl
end DP

set_option Elab.async false
set_option linter.all false
set_option maxRecDepth 100000
namespace DP
open DL PySem
open L2 hiding prD
local macro_rules | `(tactic| walk_at "wp") => `(tactic| try simp only [startD, List.map_cons, List.map_nil, List.length_cons, List.length_nil, Nat.zero_add, Nat.reduceAdd, Nat.reduceSub, List.replicate_succ, List.replicate_zero, List.cons_append, List.nil_append, List.set_cons_zero, List.set_cons_succ, setAll, wipeD,
  wq_var0, wq_var1, wq_var2, wq_var3, wq_var4, wq_var5, wq_var6, wq_var7, wq_var8, wq_var9, wq_var10, wq_var11, wq_var12, wq_var13, wq_var14, wq_var15, wq_cst, wq_tup, wq_lst, wq_bin, wq_neg, wq_cmp, wq_chn, wq_isn, wq_isb, wq_notv, wq_andv, wq_orv, wq_ite, wq_call, wq_bi, wq_isi, wq_rgl, wq_ix, wq_cut, wq_rev, wq_comp, wq_bm, wq_nil, wq_cons, wq_on, wq_os, wq_val, wq_and, wq_or, wq_not, wq_yes, wq_snil, wq_scons, wq_set, wq_tset, wq_par, wq_sub, wq_expr, wq_if, wq_for, wq_whil, wq_ret, wq_pass, wq_cont, end_rt, end_nx,
  x_addI, x_addT, x_addS, x_sub, x_mul, x_fdiv, x_mod, x_lt, x_le, x_gt, x_ge, x_eqI, x_neI, x_bTst, x_truB, x_truN, x_truI, x_truT, x_truR, x_lenT, x_lenR, x_tupT, x_lstT, x_min2, x_max2, x_intB, x_intI, x_cutT, x_revT, x_srcT, x_srcR, x_rng1, x_rng2, x_zip, x_rgl1, x_rgl2, g_nm, g_tp, g_cons, g_nil, ty_app, ty_ext, ty_pop, ty_popi, if_true, if_false, Bool.false_eq_true, Bool.true_eq_false, Bool.not_true, Bool.not_false, len2_ok, len0_ok, true_and, isNonD])

/-! the later laws' own defs -/
theorem okF_snoc {l : PL} {a b : Int} (hl : okF 0 l) (h1 : endF 0 l ≤ a) (h2 : a < b) (h3 : b ≤ 100) : okF 0 (l ++ [(a, b)]) := okF_app.mpr ⟨hl, h1, h2, h3, True.intro⟩
theorem law_spread2 {G : Gm} (hD : Draws G) (hG3 : G.fn 103 = some ⟨3, 3, IR.law_pick⟩) (hG : G.fn 107 = some ⟨2, 6, IR.law_spread_k18⟩) (n : Nat) (ns : List Int) {t : Addr} {k : Nat} {A : AH} {Q : QE} {E : XQ} (ht : A t = some (tw k)) (hk : k < 90000) (h : ∀ l k', okF 0 l → l.length ≤ 6 → k ≤ k' → k' ≤ k + 30 → Q (spd l) (up A t (tw k'))) : callN G (n + 3) 107 [.rol (ns.map .int), .ref t] A Q E := by
  refine callN_mk hG rfl ?_
  unfold IR.law_spread_k18
  walk_at "wp"
  intro p np
  have hs0 := gr_new (o := .lst [.int 4, .int 60]) (gr_id ht) np
  refine pick_lst hD hG3 _ ns (gr_t hs0) (by omega) (ne_free ht np) up_same (by simp) fun x hx => ?_
  have hs1 := gr_up (u := tw (k + 1)) hs0
  have : ∃ v : Int, x = .int v ∧ 0 < v ∧ v ≤ 60 := by
    simp only [List.mem_cons, List.not_mem_nil, or_false] at hx
    rcases hx with rfl | rfl <;> exact ⟨_, rfl, by decide, by decide⟩
  obtain ⟨v, rfl, hv0, hv1⟩ := this
  refine hD _ ns (gr_t hs1) (by omega) hv0 fun r0 h00 h01 => ?_
  have hs2 := gr_up (u := tw (k + 2)) hs1
  walk_at "wp"
  refine hD _ ns (gr_t hs2) (by omega) (by decide) fun r h0 h1 => ?_
  have hs3 := gr_up (u := tw (k + 3)) hs2
  walk_at "wp"
  refine ⟨by omega, ?_⟩
  refine for_inv (fun j δ B => ∃ l here k' d4 d5, δ = [some (.rol (ns.map .int)), some (.ref t), some (.int here), some (spd l), d4, d5] ∧ okF 0 l ∧ endF 0 l ≤ here ∧ l.length ≤ j ∧ k ≤ k' ∧ k' ≤ k + 3 + 4 * j ∧ DL.Sub (up A t (tw k')) B) (rgD 0 r) 0 ?_ ⟨[], r0, k + 3, none, none, rfl, True.intro, h00, by simp, by omega, by omega, hs3⟩ ?_
  · rintro i x δ B N hi ⟨l, here, k', d4, d5, rfl, hl, he, hll, hk1, hk2, hs⟩ hN
    refine ⟨True.intro, ?_⟩
    obtain ⟨rfl, hlt⟩ := rgD_get hi
    rw [Nat.zero_add] at hN hll hk2
    unfold IR.law_spread_k18_b1
    walk_at "wp"
    refine ⟨by decide, ?_⟩
    intro p np
    have hs1 := gr_new (o := .lst [.int 3, .int 3, .int 20]) hs np
    refine pick_lst hD hG3 _ ns (gr_t hs1) (by omega) (ne_free (gr_t hs) np) up_same (by simp) fun x hx => ?_
    have hs2 := gr_up (u := tw (k' + 1)) hs1
    have : ∃ v : Int, x = .int v ∧ 0 < v ∧ v ≤ 60 := by
      simp only [List.mem_cons, List.not_mem_nil, or_false] at hx
      rcases hx with rfl | rfl | rfl <;> exact ⟨_, rfl, by decide, by decide⟩
    obtain ⟨v, rfl, hv0, hv1⟩ := this
    refine hD _ ns (gr_t hs2) (by omega) hv0 fun r1 h10 h11 => ?_
    have hs3 := gr_up (u := tw (k' + 2)) hs2
    walk_at "wp"
    have he0 := okF_le hl
    cases e : decide (here + 1 + r1 ≤ 100) with
    | false =>
      rw [if_neg (by decide)]
      exact hN _ _ ⟨l, here, k' + 2, _, _, rfl, hl, he, by omega, by omega, by omega, hs3⟩
    | true =>
      have e := of_decide_eq_true e
      rw [if_pos rfl]
      refine ⟨by decide, by rw [List.length_map]; exact Nat.le_trans (by omega : _ ≤ 100000) (by decide), by decide, ?_⟩
      intro q nq
      have hs4 := gr_new (o := .lst [.int 2, .int 2, .int 15]) hs3 nq
      refine pick_lst hD hG3 _ ns (gr_t hs4) (by omega) (ne_free (gr_t hs3) nq) up_same (by simp) fun x hx => ?_
      have hs5 := gr_up (u := tw (k' + 3)) hs4
      have : ∃ v : Int, x = .int v ∧ 0 < v ∧ v ≤ 60 := by
        simp only [List.mem_cons, List.not_mem_nil, or_false] at hx
        rcases hx with rfl | rfl | rfl <;> exact ⟨_, rfl, by decide, by decide⟩
      obtain ⟨w, rfl, hw0, hw1⟩ := this
      refine hD _ ns (gr_t hs5) (by omega) hw0 fun r2 h20 h21 => ?_
      have hs6 := gr_up (u := tw (k' + 4)) hs5
      walk_at "wp"
      refine hN _ _ ⟨l ++ [(here, here + 1 + r1)], here + 1 + r1 + 1 + r2, k' + 4, some (.int i), some (.int (here + 1 + r1)), ?_, okF_snoc hl he (by omega) e, ?_, ?_, by omega, by omega, hs6⟩
      · rw [spd, List.map_append]; rfl
      · rw [endF_app]; show here + 1 + r1 + 1 ≤ _; omega
      · rw [List.length_append]; simp; omega
  · rintro δ B ⟨l, here, k', d4, d5, rfl, hl, he, hll, hk1, hk2, hs⟩
    refine ⟨True.intro, ?_⟩
    rw [Nat.zero_add, rgD_len] at hll hk2
    walk_at "wp"
    exact ret_at hs (h l k' hl (by omega) hk1 (by omega))
theorem law_keys2 {G : Gm} (hG : G.fn 105 = some ⟨1, 4, IR.law_keys_k18⟩) (n : Nat) (l : PL) (hl : ∀ p ∈ l, okSt p) (hz : l.length < 100000) {A : AH} {Q : QE} {E : XQ} (h : ∀ p, A p = none → Q (.ref p) (up A p (.lst ((keysOf l).map .int)))) : callN G (n + 1) 105 [spd l] A Q E := by
  refine callN_mk hG rfl ?_
  unfold IR.law_keys_k18
  walk_at "wp"
  intro p np
  walk_at "wp"
  refine keys_loop np l [] _ none none hl (DL.Sub.refl _) (by show 0 + 100 * l.length < 2 ^ 24; omega) fun d2 d3 A' hs => ?_
  walk_at "wp"
  exact ret_at hs (h p np)
theorem dPopi {A : AH} {p : Addr} {xs : List D} {r : Int} {Q : QE} (h : A p = some (.lst xs)) (h0 : 0 ≤ r) (h1 : r < xs.length) (hz : xs.length < 100000) (k : ∀ (j : Nat) (y : D), xs[j]? = some y → Q y (up A p (.lst (xs.eraseIdx j)))) : dBm .popi (.ref p) [.int r] A Q := by
  have e : ixN xs.length r = some r.toNat := by
    unfold ixN
    rw [if_pos h0]
    have : r.toNat < xs.length := by omega
    simp [this]
    omega
  have hi : xs[r.toNat]? = some xs[r.toNat] := List.getElem?_eq_getElem (by omega)
  simp only [dBm, h, e, hi]
  exact ⟨by omega, k _ _ hi⟩
theorem perm_erase {α : Type} (left found : List α) {j : Nat} {y : α} (h : left[j]? = some y) : (left.eraseIdx j ++ (found ++ [y])).Perm (left ++ found) := by
  obtain ⟨hj, rfl⟩ := List.getElem?_eq_some_iff.mp h
  have h1 : (left[j] :: left.eraseIdx j).Perm left := by
    rw [List.eraseIdx_eq_take_drop_succ]
    have := List.take_append_drop j left
    refine (List.perm_middle.symm).trans ?_
    rw [List.getElem_cons_drop, List.take_append_drop]
  refine List.Perm.trans ?_ (h1.append_right found)
  rw [← List.append_assoc]
  exact List.perm_append_comm
theorem erase_map {α β : Type} (f : α → β) : ∀ (l : List α) (j : Nat), (l.map f).eraseIdx j = (l.eraseIdx j).map f
  | [], _ => rfl
  | _ :: _, 0 => rfl
  | a :: l, j + 1 => by
    show f a :: (l.map f).eraseIdx j = f a :: (l.eraseIdx j).map f
    rw [erase_map f l j]
theorem mix_loop {G : Gm} {c : CallT} {α : Type} (f : α → D) (hc : ∀ {t : Addr} {k : Nat} {m : Int} {A : AH} {Q : QE} {E : XQ}, A t = some (tw k) → k < 100000 → 0 < m → (∀ r, 0 ≤ r → r < m → Q (.int r) (up A t (tw (k + 1)))) → c 102 [sc, .ref t, .int m] A Q E) {P : Pst} {t p q : Addr} {x2 : Option D} (ntp : t ≠ p) (ntq : t ≠ q) (npq : p ≠ q) {A0 : AH} : ∀ (m : Nat) (left found : List α) (k : Nat) (A : AH), left.length = m → k + left.length < 100000 → left.length + found.length < 100000 → A t = some (tw k) → A p = some (.lst (left.map f)) → A q = some (.lst (found.map f)) → (∀ a o, A0 a = some o → a ≠ t → a ≠ p → a ≠ q → A a = some o) →
    (∀ (ys : List α) A', ys.Perm (left ++ found) → A' t = some (tw (k + left.length)) → A' q = some (.lst (ys.map f)) → (∀ a o, A0 a = some o → a ≠ t → a ≠ p → a ≠ q → A' a = some o) → P.nx [some sc, some (.ref t), x2, some (.ref p), some (.ref q)] A') →
    dWhile (wpT c G (.val (.var 3))) (wpSs c G IR.law_mixed_b1) (m + 1) P [some sc, some (.ref t), x2, some (.ref p), some (.ref q)] A
  | 0, left, found, k, A, hm, hk, hz, ht, hp, hq, ho, h => by
    cases left with
    | cons a l => cases hm
    | nil =>
      unfold dWhile
      walk_at "wp"
      rw [x_truL hp]
      walk_at "wp"
      rw [if_neg (by simp)]
      exact h found A (List.Perm.refl _) ht hq ho
  | m + 1, left, found, k, A, hm, hk, hz, ht, hp, hq, ho, h => by
    have hne : (left.map f).isEmpty = false := by cases left with | nil => cases hm | cons a l => rfl
    unfold dWhile
    walk_at "wp"
    rw [x_truL hp, hne, if_pos (by rfl)]
    have ih := mix_loop (G := G) f hc (P := P) (t := t) (p := p) (q := q) (x2 := x2) ntp ntq npq (A0 := A0) m
    unfold IR.law_mixed_b1 at *
    walk_at "wp"
    rw [x_isL hq, x_isL hp, x_lenL hp]
    refine ⟨True.intro, True.intro, ?_⟩
    refine hc ht (by omega) (by rw [List.length_map]; omega) fun r h0 h1 => ?_
    rw [List.length_map] at h1
    refine dPopi (kp_up hp ntp.symm) h0 (by rw [List.length_map]; exact h1) (by rw [List.length_map]; omega) fun j y hy => ?_
    obtain ⟨z, hz2, rfl⟩ := List.getElem?_map ▸ hy |> Option.map_eq_some_iff.mp
    have hj := (List.getElem?_eq_some_iff.mp hz2).1
    have ee : (left.map f).eraseIdx j = (left.eraseIdx j).map f := erase_map f left j
    have el : (left.eraseIdx j).length = m := by rw [List.length_eraseIdx_of_lt hj]; omega
    rw [ee, x_app (kp_up (kp_up hq ntq.symm) npq.symm)]
    refine ⟨by rw [List.length_map]; exact Nat.lt_of_lt_of_le (by omega : _ < 100000) (by decide), ?_⟩
    refine ih (left.eraseIdx j) (found ++ [z]) (k + 1) _ el (by omega) (by rw [List.length_append]; simp; omega) ?_ ?_ ?_ ?_ ?_
    · rw [up_ne ntq, up_ne ntp]; exact up_same
    · rw [up_ne npq]; exact up_same
    · rw [List.map_append]; exact up_same
    · intro a o ha n1 n2 n3
      rw [up_ne n3, up_ne n2, up_ne n1]; exact ho a o ha n1 n2 n3
    · intro ys A' hys ht' hq' ho'
      exact h ys A' (hys.trans (perm_erase left found hz2)) (by rw [ht']; congr 2; omega) hq' ho'
theorem law_mixed {G : Gm} (hD : Draws G) (hG : G.fn 148 = some ⟨3, 5, IR.law_mixed⟩) {α : Type} (f : α → D) (n : Nat) (ns : List Int) (xs : List α) {t : Addr} {k : Nat} {A : AH} {Q : QE} {E : XQ} (ht : A t = some (tw k)) (hk : k < 80000) (hx : xs.length < 10000) (h : ∀ ys : List α, ys.Perm xs → Q (.tup (ys.map f)) (up A t (tw (k + xs.length)))) : callN G (n + 2) 148 [.rol (ns.map .int), .ref t, .tup (xs.map f)] A Q E := by
  refine callN_mk hG rfl ?_
  unfold IR.law_mixed
  walk_at "wp"
  intro p np
  intro q nq
  have hq := up_free.mp nq
  walk_at "wp"
  refine ⟨xs.length + 1, ?_⟩
  refine mix_loop f (fun a b c d => hD n ns a b c d) (ne_free ht np) (ne_free ht hq.2) hq.1.symm (A0 := A) xs.length xs [] k _ rfl (by omega) (by simp; omega) ?_ ?_ up_same ?_ ?_
  · exact kp_new (kp_new ht np) nq
  · exact kp_new up_same nq
  · intro a o ha n1 n2 n3
    exact kp_new (kp_new ha np) nq
  · intro ys A' hp ht' hq' ho'
    walk_at "wp"
    rw [x_tupL hq']
    refine ret_at ?_ (h ys (by rw [List.append_nil] at hp; exact hp))
    intro a o ha
    by_cases e : a = t
    · subst e; rw [up_same] at ha; cases ha; exact ht'
    · rw [up_ne e] at ha
      exact ho' a o ha e (ne_up ha np) (ne_up ha hq.2)
theorem sorted_keys {l : PL} (h : okF 0 l) : sortI (keysOf l) = keysOf l := (sortI_eq (List.Perm.refl _) ((keysOf_pw h).imp fun h => by omega)).symm
theorem prs_inj : ∀ {l m : PL}, prs l = prs m → l = m
  | [], [], _ => rfl
  | [], _ :: _, h => by cases h
  | _ :: _, [], h => by cases h
  | p :: l, q :: m, h => by
    have h := List.cons.inj h
    rw [prs_inj h.2]
    have e : prD p = prD q := h.1
    unfold prD at e
    injection e with e
    injection e with e1 e2
    injection e2 with e2
    injection e1 with e1
    injection e2 with e2
    rw [show p = q from Prod.ext e1 e2]
theorem ints_inj : ∀ {l m : List Int}, l.map D.int = m.map D.int → l = m
  | [], [], _ => rfl
  | [], _ :: _, h => by cases h
  | _ :: _, [], h => by cases h
  | p :: l, q :: m, h => by
    have h := List.cons.inj h
    rw [ints_inj h.2, D.int.inj h.1]
end DP

set_option Elab.async false
set_option linter.all false
set_option maxRecDepth 100000
namespace DP
open DL PySem
open L2 hiding prD
local macro_rules | `(tactic| walk_at "wp") => `(tactic| try simp only [startD, List.map_cons, List.map_nil, List.length_cons, List.length_nil, Nat.zero_add, Nat.reduceAdd, Nat.reduceSub, List.replicate_succ, List.replicate_zero, List.cons_append, List.nil_append, List.set_cons_zero, List.set_cons_succ, setAll, wipeD,
  wq_var0, wq_var1, wq_var2, wq_var3, wq_var4, wq_var5, wq_var6, wq_var7, wq_var8, wq_var9, wq_var10, wq_var11, wq_var12, wq_var13, wq_var14, wq_var15, wq_cst, wq_tup, wq_lst, wq_bin, wq_neg, wq_cmp, wq_chn, wq_isn, wq_isb, wq_notv, wq_andv, wq_orv, wq_ite, wq_call, wq_bi, wq_isi, wq_rgl, wq_ix, wq_cut, wq_rev, wq_comp, wq_bm, wq_nil, wq_cons, wq_on, wq_os, wq_val, wq_and, wq_or, wq_not, wq_yes, wq_snil, wq_scons, wq_set, wq_tset, wq_par, wq_sub, wq_expr, wq_if, wq_for, wq_whil, wq_ret, wq_pass, wq_cont, end_rt, end_nx,
  x_addI, x_addT, x_addS, x_sub, x_mul, x_fdiv, x_mod, x_lt, x_le, x_gt, x_ge, x_eqI, x_neI, x_bTst, x_truB, x_truN, x_truI, x_truT, x_truR, x_lenT, x_lenR, x_tupT, x_lstT, x_min2, x_max2, x_intB, x_intI, x_cutT, x_revT, x_srcT, x_srcR, x_rng1, x_rng2, x_zip, x_rgl1, x_rgl2, g_nm, g_tp, g_cons, g_nil, ty_app, ty_ext, ty_pop, ty_popi, if_true, if_false, Bool.false_eq_true, Bool.true_eq_false, Bool.not_true, Bool.not_false, len2_ok, len0_ok, true_and, isNonD])

/-! joined, met, turned out, without: one form of the keys -/
def jn (l m : PL) : PL := formOf fun k => hasD l k || hasD m k
def mt (l m : PL) : PL := formOf fun k => hasD l k && hasD m k
def tn (l : PL) (a b : Int) : PL := formOf fun k => decide (a ≤ k) && decide (k < b) && !hasD l k
def wo (l m : PL) : PL := formOf fun k => hasD l k && !hasD m k
theorem form_has' {f : Int → Bool} (h : ∀ k, f k = true → 0 ≤ k ∧ k < 100) (k : Int) : hasD (formOf f) k = f k := by
  rw [form_has]
  cases e : f k with
  | false => rw [Bool.and_false]
  | true => have := h k e; rw [decide_eq_true this.1, decide_eq_true this.2]; rfl
theorem okF_rg {l : PL} (h : okF 0 l) {k : Int} (e : hasD l k = true) : 0 ≤ k ∧ k < 100 := ⟨okF_low h e, okF_top h e⟩
theorem jn_ok (l m : PL) : okF 0 (jn l m) := form_ok _
theorem mt_ok (l m : PL) : okF 0 (mt l m) := form_ok _
theorem tn_ok (l : PL) (a b : Int) : okF 0 (tn l a b) := form_ok _
theorem wo_ok (l m : PL) : okF 0 (wo l m) := form_ok _
theorem jn_has {l m : PL} (hl : okF 0 l) (hm : okF 0 m) (k : Int) : hasD (jn l m) k = (hasD l k || hasD m k) := form_has' (fun k h => by
  rcases Bool.or_eq_true _ _ ▸ h with h | h
  · exact okF_rg hl h
  · exact okF_rg hm h) k
theorem mt_has {l m : PL} (hl : okF 0 l) (k : Int) : hasD (mt l m) k = (hasD l k && hasD m k) := form_has' (fun k h => okF_rg hl (Bool.and_eq_true _ _ ▸ h).1) k
theorem wo_has {l m : PL} (hl : okF 0 l) (k : Int) : hasD (wo l m) k = (hasD l k && !hasD m k) := form_has' (fun k h => okF_rg hl (Bool.and_eq_true _ _ ▸ h).1) k
theorem tn_has {l : PL} {a b : Int} (ha : 0 ≤ a) (hb : b ≤ 100) (k : Int) : hasD (tn l a b) k = (decide (a ≤ k) && decide (k < b) && !hasD l k) := form_has' (fun k h => by
  simp only [Bool.and_eq_true, decide_eq_true_eq] at h; omega) k
theorem form_len (f : Int → Bool) : (formOf f).length ≤ 50 := by have := okF_len (form_ok f) (by decide); omega
theorem okF_len' {l : PL} (h : okF 0 l) : l.length ≤ 50 := by have := okF_len h (by decide); omega
theorem is_form {f : Int → Bool} {r : PL} (hr : okF 0 r) (h : ∀ k, 0 ≤ k → k < 100 → f k = hasD r k) : r = formOf f := (form_eq hr h).symm
theorem form_congr {f g : Int → Bool} (h : ∀ k, 0 ≤ k → k < 100 → f k = g k) : formOf f = formOf g := form_eq (form_ok g) fun k h0 h1 => by
  rw [form_has, decide_eq_true h0, decide_eq_true h1, h k h0 h1]; rfl
theorem joined_ok {G : Gm} (hG4 : G.fn 4 = some ⟨1, 4, IR.spread_of⟩) (hG : G.fn 9 = some ⟨2, 2, IR.joined⟩) (n : Nat) {l m : PL} (hl : okF 0 l) (hm : okF 0 m) {A : AH} {Q : QE} {E : XQ} (h : Q (spd (jn l m)) A) : callN G (n + 2) 9 [spd l, spd m] A Q E := by
  have := okF_len' hl; have := okF_len' hm
  refine callN_mk hG rfl ?_
  unfold IR.joined
  walk_at "wp"
  rw [← List.map_append]
  refine ⟨by rw [List.length_map, List.length_map]; exact Nat.le_trans (by omega : _ ≤ 100000) (by decide), ?_⟩
  refine spread_of_tup hG4 n _ (by rw [List.length_append]; omega) (ret_here ?_)
  rw [spreadOf_eq (l := jn l m) (fun p hp => ?_) (jn_ok l m) fun k => by rw [hasD_app, jn_has hl hm]]
  · exact h
  · rcases List.mem_append.mp hp with hp | hp
    · exact okF_st hl (Int.le_refl _) p hp
    · exact okF_st hm (Int.le_refl _) p hp
theorem met_ok {G : Gm} (hG4 : G.fn 4 = some ⟨1, 4, IR.spread_of⟩) (hG : G.fn 10 = some ⟨2, 7, IR.met⟩) (n : Nat) {l m : PL} (hl : okF 0 l) (hm : okF 0 m) {A : AH} {Q : QE} {E : XQ} (h : Q (spd (mt l m)) A) : callN G (n + 2) 10 [spd l, spd m] A Q E := by
  have hll := okF_len' hl; have hml := okF_len' hm
  refine callN_mk hG rfl ?_
  unfold IR.met
  walk_at "wp"
  intro p np
  walk_at "wp"
  refine for_inv (fun j δ B => ∃ found d3 d4 d5 d6, δ = [some (spd l), some (spd m), some (.ref p), d3, d4, d5, d6] ∧ B = up A p (.lst (prs found)) ∧ (∀ p ∈ found, okSt p) ∧ found.length ≤ j * 50 ∧ ∀ k, hasD found k = (hasD (l.take j) k && hasD m k)) (prs l) 0 ?_ ⟨[], none, none, none, none, rfl, rfl, by simp, by simp, fun _ => rfl⟩ ?_
  · rintro i x δ B N hi ⟨found, d3, d4, d5, d6, rfl, rfl, hf, hfl, hfk⟩ hN
    refine ⟨True.intro, ?_⟩
    obtain ⟨⟨a, b⟩, hy, rfl⟩ := List.getElem?_map ▸ hi |> Option.map_eq_some_iff.mp
    have hil := (List.getElem?_eq_some_iff.mp hy).1
    have hyo := okF_st hl (Int.le_refl _) (a, b) (List.mem_of_getElem? hy)
    rw [Nat.zero_add] at hN hfl hfk
    rw [prD_eq]
    unfold IR.met_b2
    walk_at "wp"
    refine for_inv (fun j δ B => ∃ found d5 d6, δ = [some (spd l), some (spd m), some (.ref p), some (.int a), some (.int b), d5, d6] ∧ B = up A p (.lst (prs found)) ∧ (∀ p ∈ found, okSt p) ∧ found.length ≤ i * 50 + j ∧ ∀ k, hasD found k = ((hasD (l.take i) k && hasD m k) || ((decide (a ≤ k) && decide (k < b)) && hasD (m.take j) k))) (prs m) 0 ?_ ⟨found, d5, d6, rfl, rfl, hf, by omega, fun k => by rw [hfk, List.take_zero, hasD_nil, Bool.and_false, Bool.or_false]⟩ ?_
    · rintro j x δ B M hj ⟨found, d5, d6, rfl, rfl, hf, hfl, hfk⟩ hM
      refine ⟨True.intro, ?_⟩
      obtain ⟨⟨c, d⟩, hz, rfl⟩ := List.getElem?_map ▸ hj |> Option.map_eq_some_iff.mp
      have hjl := (List.getElem?_eq_some_iff.mp hz).1
      have hzo := okF_st hm (Int.le_refl _) (c, d) (List.mem_of_getElem? hz)
      rw [Nat.zero_add] at hM hfl hfk
      rw [prD_eq]
      unfold IR.met_b1
      walk_at "wp"
      generalize hs : (if c > a then c else a) = s
      generalize he : (if d < b then d else b) = e
      have hs' : s = max a c := by rw [← hs]; split <;> omega
      have he' : e = min b d := by rw [← he]; split <;> omega
      have q1 : 0 ≤ a := hyo.1
      have q2 : b ≤ 100 := hyo.2.2
      have tk : ∀ k, hasD (m.take (j + 1)) k = (hasD (m.take j) k || (decide (c ≤ k) && decide (k < d))) := fun k => by
        rw [List.take_add_one, hz, hasD_app]
        show (_ || hasD [(c, d)] k) = _
        rw [hasD_cons, hasD_nil, Bool.or_false]
      have tk2 : ∀ k, ((decide (a ≤ k) && decide (k < b)) && (decide (c ≤ k) && decide (k < d))) = (decide (s ≤ k) && decide (k < e)) := fun k => by
        rw [Bool.eq_iff_iff]; simp only [Bool.and_eq_true, decide_eq_true_eq]; omega
      cases hc : decide (s < e) with
      | true =>
        have hc := of_decide_eq_true hc
        rw [if_pos rfl, x_isL up_same, x_app up_same, up_up]
        refine ⟨True.intro, by rw [List.length_map]; exact Nat.lt_of_lt_of_le (by omega : _ < 100000) (by decide), ?_⟩
        refine hM _ _ ⟨found ++ [(s, e)], some (.int c), some (.int d), rfl, by rw [prs, prs, List.map_append]; rfl, fun p hp => ?_, by rw [List.length_append]; simp; omega, fun k => ?_⟩
        · rcases List.mem_append.mp hp with hp | hp
          · exact hf p hp
          · rw [List.mem_singleton.mp hp]; exact ⟨by dsimp only; omega, by dsimp only; omega, by dsimp only; omega⟩
        · rw [hasD_app, hfk, tk, Bool.and_or_distrib_left, tk2, hasD_cons, hasD_nil, Bool.or_false, Bool.or_assoc]
      | false =>
        have hc := of_decide_eq_false hc
        rw [if_neg (by decide)]
        refine hM _ _ ⟨found, some (.int c), some (.int d), rfl, rfl, hf, by omega, fun k => ?_⟩
        rw [hfk, tk, Bool.and_or_distrib_left, tk2, show (decide (s ≤ k) && decide (k < e)) = false by rw [Bool.eq_false_iff]; simp; omega, Bool.or_false]
    · rintro δ B ⟨found, d5, d6, rfl, rfl, hf, hfl, hfk⟩
      refine ⟨True.intro, ?_⟩
      rw [Nat.zero_add, show (prs m).length = m.length from List.length_map _] at hfl hfk
      walk_at "wp"
      refine hN _ _ ⟨found, _, _, _, _, rfl, rfl, hf, by omega, fun k => ?_⟩
      rw [hfk, List.take_length, List.take_add_one, hy, hasD_app]
      show _ = ((_ || hasD [(a, b)] k) && _)
      rw [hasD_cons, hasD_nil, Bool.or_false, Bool.and_or_distrib_right]
  · rintro δ B ⟨found, d3, d4, d5, d6, rfl, rfl, hf, hfl, hfk⟩
    refine ⟨True.intro, ?_⟩
    rw [Nat.zero_add, show (prs l).length = l.length from List.length_map _] at hfl hfk
    rw [List.take_length] at hfk
    walk_at "wp"
    refine spread_of_lst hG4 n found up_same (by omega) (ret_at (DL.Sub.new np) ?_)
    rw [spreadOf_eq (l := mt l m) hf (mt_ok l m) fun k => by rw [hfk, mt_has hl]]
    exact h
structure TI (l : PL) (a b : Int) (pre found : PL) (here : Int) : Prop where
  ok : okF 0 found
  en : endF 0 found ≤ here
  has : ∀ k, hasD found k = true ↔ a ≤ k ∧ k < b ∧ k < here ∧ hasD pre k = false
  bef : ∀ k, hasD pre k = true → k < here
  lo : a ≤ here
  hi : here = a ∨ here < endF 0 pre
theorem TI.step {l : PL} {a b : Int} {pre found : PL} {here s e : Int} (h : TI l a b pre found here) (ha : 0 ≤ a) (hb : b ≤ 100) (h1 : endF 0 pre ≤ s) (h2 : s < e) : TI l a b (pre ++ [(s, e)]) (if here < s ∧ here < b then found ++ [(here, if b < s then b else s)] else found) (if e > here then e else here) := by
  have hsd : ∀ k, hasD (pre ++ [(s, e)]) k = false ↔ hasD pre k = false ∧ ¬ (s ≤ k ∧ k < e) := fun k => by
    rw [hasD_app, hasD_cons, hasD_nil, Bool.or_false]
    cases hasD pre k <;> simp <;> omega
  have hst : ∀ k, hasD (pre ++ [(s, e)]) k = true ↔ hasD pre k = true ∨ (s ≤ k ∧ k < e) := fun k => by
    rw [hasD_app, hasD_cons, hasD_nil, Bool.or_false]
    cases hasD pre k <;> simp
  have := h.lo
  have hpf : ∀ k, here ≤ k → hasD pre k = false := fun k hk => by
    rw [Bool.eq_false_iff]; intro hh; have := h.bef k hh; omega
  refine ⟨?_, ?_, fun k => ?_, fun k hk => ?_, by split <;> omega, ?_⟩
  · split
    · next c => exact okF_snoc h.ok h.en (by split <;> omega) (by split <;> omega)
    · exact h.ok
  · have := h.en
    split
    · next c => rw [endF_app]; show (if b < s then b else s) + 1 ≤ _; split <;> split <;> omega
    · split <;> omega
  · rw [hsd]
    have hk0 := h.has k
    split
    · next c =>
      rw [hasD_app, Bool.or_eq_true, hk0]
      have e1 : hasD [(here, if b < s then b else s)] k = true ↔ here ≤ k ∧ k < s ∧ k < b := by
        rw [hasD_consT]
        simp [hasD_nil]
        split <;> omega
      rw [e1, if_pos (by omega)]
      constructor
      · rintro (⟨x1, x2, x3, x4⟩ | ⟨x1, x2, x3⟩)
        · exact ⟨x1, x2, by omega, x4, by omega⟩
        · exact ⟨by omega, x3, by omega, hpf k x1, by omega⟩
      · rintro ⟨x1, x2, x3, x4, x5⟩
        by_cases hk : k < here
        · exact .inl ⟨x1, x2, hk, x4⟩
        · exact .inr ⟨by omega, by omega, x2⟩
    · next c =>
      rw [hk0]
      constructor
      · rintro ⟨x1, x2, x3, x4⟩
        refine ⟨x1, x2, by split <;> omega, x4, ?_⟩
        rintro ⟨x5, x6⟩
        rcases h.hi with x | x <;> omega
      · rintro ⟨x1, x2, x3, x4, x5⟩
        refine ⟨x1, x2, ?_, x4⟩
        revert x3; split <;> intro x3 <;> omega
  · rcases (hst k).mp hk with hk | hk
    · have := h.bef k hk; split <;> omega
    · split <;> omega
  · rw [endF_app]
    show _ ∨ _ < e + 1
    rcases h.hi with x | x <;> split <;> omega
theorem TI.fin {l : PL} {a b : Int} {found : PL} {here : Int} (h : TI l a b l found here) (ha : 0 ≤ a) (hb : b ≤ 100) : (if here < b then found ++ [(here, b)] else found) = tn l a b := by
  refine is_form ?_ fun k h0 h1 => ?_
  · split
    · next c => exact okF_snoc h.ok h.en c hb
    · exact h.ok
  · have hk0 := h.has k
    have := h.lo
    rw [Bool.eq_iff_iff]
    split
    · next c =>
      rw [hasD_app, Bool.or_eq_true, hk0, hasD_consT]
      simp only [Bool.and_eq_true, decide_eq_true_eq, Bool.not_eq_true', hasD_nil, Bool.false_eq_true, or_false]
      constructor
      · rintro ⟨⟨x1, x2⟩, x3⟩
        by_cases hk : k < here
        · exact .inl ⟨x1, x2, hk, x3⟩
        · exact .inr ⟨by omega, by omega⟩
      · rintro (⟨x1, x2, x3, x4⟩ | ⟨x1, x2⟩)
        · exact ⟨⟨x1, x2⟩, x4⟩
        · refine ⟨⟨by omega, by omega⟩, ?_⟩
          rw [Bool.eq_false_iff]; intro hh; have := h.bef k hh; omega
    · next c =>
      rw [hk0]
      simp only [Bool.and_eq_true, decide_eq_true_eq, Bool.not_eq_true']
      constructor
      · rintro ⟨⟨x1, x2⟩, x3⟩; exact ⟨x1, x2, by omega, x3⟩
      · rintro ⟨x1, x2, x3, x4⟩; exact ⟨⟨x1, x2⟩, x4⟩
theorem okF_split {l : PL} (hl : okF 0 l) {i : Nat} {y : Int × Int} (hy : l[i]? = some y) : endF 0 (l.take i) ≤ y.1 ∧ y.1 < y.2 ∧ y.2 ≤ 100 ∧ l.take (i + 1) = l.take i ++ [y] ∧ endF 0 (l.take (i + 1)) = y.2 + 1 ∧ okF 0 (l.take i) := by
  have e1 : l.take (i + 1) = l.take i ++ [y] := by rw [List.take_add_one, hy]; rfl
  have h2 : okF 0 (l.take (i + 1) ++ l.drop (i + 1)) := by rw [List.take_append_drop]; exact hl
  have h3 := (okF_app.mp h2).1
  rw [e1] at h3
  have h4 := okF_app.mp h3
  exact ⟨h4.2.1, h4.2.2.1, h4.2.2.2.1, e1, by rw [e1, endF_app]; rfl, h4.1⟩
theorem turned_out_ok {G : Gm} (hG : G.fn 11 = some ⟨3, 7, IR.turned_out⟩) (n : Nat) {l : PL} {a b : Int} (hl : okF 0 l) (ha : 0 ≤ a) (hb : b ≤ 100) {A : AH} {Q : QE} {E : XQ} (h : Q (spd (tn l a b)) A) : callN G (n + 1) 11 [spd l, .int a, .int b] A Q E := by
  have hll := okF_len' hl
  refine callN_mk hG rfl ?_
  unfold IR.turned_out
  walk_at "wp"
  intro p np
  walk_at "wp"
  refine for_inv (fun j δ B => ∃ found here d5 d6, δ = [some (spd l), some (.int a), some (.int b), some (.ref p), some (.int here), d5, d6] ∧ B = up A p (.lst (prs found)) ∧ found.length ≤ j ∧ TI l a b (l.take j) found here) (prs l) 0 ?_ ⟨[], a, none, none, rfl, rfl, by simp, True.intro, ha, fun k => by simp [hasD_nil]; omega, fun k hk => by simp [hasD_nil] at hk, Int.le_refl _, .inl rfl⟩ ?_
  · rintro i x δ B N hi ⟨found, here, d5, d6, rfl, rfl, hfl, ti⟩ hN
    refine ⟨True.intro, ?_⟩
    obtain ⟨⟨s, e⟩, hy, rfl⟩ := List.getElem?_map ▸ hi |> Option.map_eq_some_iff.mp
    have hil := (List.getElem?_eq_some_iff.mp hy).1
    rw [Nat.zero_add] at hN hfl ti
    obtain ⟨h1, h2, h3, h4, h5, h6⟩ := okF_split hl hy
    have st := ti.step ha hb h1 h2
    rw [← h4] at st
    rw [prD_eq]
    unfold IR.turned_out_b1
    walk_at "wp"
    cases c1 : decide (here < s) with
    | false =>
      have c1 := of_decide_eq_false c1
      rw [if_neg (by omega)] at st
      simp only [Bool.false_eq_true, if_false]
      exact hN _ _ ⟨found, _, _, _, rfl, rfl, by omega, st⟩
    | true =>
      have c1 := of_decide_eq_true c1
      simp only [if_true]
      cases c2 : decide (here < b) with
      | false =>
        have c2 := of_decide_eq_false c2
        rw [if_neg (by omega)] at st
        simp only [Bool.false_eq_true, if_false]
        exact hN _ _ ⟨found, _, _, _, rfl, rfl, by omega, st⟩
      | true =>
        have c2 := of_decide_eq_true c2
        rw [if_pos ⟨c1, c2⟩] at st
        simp only [if_true]
        rw [x_isL up_same, x_app up_same, up_up]
        refine ⟨True.intro, by rw [List.length_map]; exact Nat.lt_of_lt_of_le (by omega : _ < 100000) (by decide), ?_⟩
        exact hN _ _ ⟨_, _, _, _, rfl, by rw [prs, prs, List.map_append]; rfl, by rw [List.length_append]; simp; omega, st⟩
  · rintro δ B ⟨found, here, d5, d6, rfl, rfl, hfl, ti⟩
    refine ⟨True.intro, ?_⟩
    rw [Nat.zero_add, show (prs l).length = l.length from List.length_map _] at hfl ti
    rw [List.take_length] at ti
    have fi := ti.fin ha hb
    walk_at "wp"
    cases c2 : decide (here < b) with
    | false =>
      have c2 := of_decide_eq_false c2
      rw [if_neg c2] at fi
      simp only [Bool.false_eq_true, if_false]
      rw [x_tupL up_same]
      rw [fi]
      exact ret_at (DL.Sub.new np) h
    | true =>
      have c2 := of_decide_eq_true c2
      rw [if_pos c2] at fi
      simp only [if_true]
      rw [x_isL up_same, x_app up_same, up_up, x_tupL up_same]
      refine ⟨True.intro, by rw [List.length_map]; exact Nat.lt_of_lt_of_le (by omega : _ < 100000) (by decide), ?_⟩
      rw [← fi] at h
      refine ret_at (DL.Sub.new np) ?_
      rw [spd, List.map_append] at h
      exact h
end DP

set_option Elab.async false
set_option linter.all false
set_option maxRecDepth 100000
namespace DP
open DL PySem
open L2 hiding prD
local macro_rules | `(tactic| walk_at "wp") => `(tactic| try simp only [startD, List.map_cons, List.map_nil, List.length_cons, List.length_nil, Nat.zero_add, Nat.reduceAdd, Nat.reduceSub, List.replicate_succ, List.replicate_zero, List.cons_append, List.nil_append, List.set_cons_zero, List.set_cons_succ, setAll, wipeD,
  wq_var0, wq_var1, wq_var2, wq_var3, wq_var4, wq_var5, wq_var6, wq_var7, wq_var8, wq_var9, wq_var10, wq_var11, wq_var12, wq_var13, wq_var14, wq_var15, wq_cst, wq_tup, wq_lst, wq_bin, wq_neg, wq_cmp, wq_chn, wq_isn, wq_isb, wq_notv, wq_andv, wq_orv, wq_ite, wq_call, wq_bi, wq_isi, wq_rgl, wq_ix, wq_cut, wq_rev, wq_comp, wq_bm, wq_nil, wq_cons, wq_on, wq_os, wq_val, wq_and, wq_or, wq_not, wq_yes, wq_snil, wq_scons, wq_set, wq_tset, wq_par, wq_sub, wq_expr, wq_if, wq_for, wq_whil, wq_ret, wq_pass, wq_cont, end_rt, end_nx,
  x_addI, x_addT, x_addS, x_sub, x_mul, x_fdiv, x_mod, x_lt, x_le, x_gt, x_ge, x_eqI, x_neI, x_bTst, x_truB, x_truN, x_truI, x_truT, x_truR, x_lenT, x_lenR, x_tupT, x_lstT, x_min2, x_max2, x_intB, x_intI, x_cutT, x_revT, x_srcT, x_srcR, x_rng1, x_rng2, x_zip, x_rgl1, x_rgl2, g_nm, g_tp, g_cons, g_nil, ty_app, ty_ext, ty_pop, ty_popi, if_true, if_false, Bool.false_eq_true, Bool.true_eq_false, Bool.not_true, Bool.not_false, len2_ok, len0_ok, true_and, isNonD])

theorem okF_raise {lo : Int} : ∀ {r : PL} {lo0 : Int}, okF lo0 r → (∀ k, hasD r k = true → lo ≤ k) → okF lo r
  | [], _, _, _ => True.intro
  | p :: r, _, ⟨a, b, c, d⟩, h => ⟨h p.1 (hasD_consT.mpr (.inl ⟨Int.le_refl _, b⟩)), b, c, d⟩
theorem endF_le {b : Int} : ∀ {r : PL} {lo : Int}, okF lo r → (∀ k, hasD r k = true → k < b) → lo ≤ b + 1 → endF lo r ≤ b + 1
  | [], _, _, _, h => h
  | p :: r, lo, ⟨x, y, z, d⟩, h, hl => by
    show endF (p.2 + 1) r ≤ b + 1
    have := h (p.2 - 1) (hasD_consT.mpr (.inl ⟨by omega, by omega⟩))
    exact endF_le d (fun k hk => h k (hasD_consT.mpr (.inr hk))) (by omega)
theorem without_ok {G : Gm} (hG11 : G.fn 11 = some ⟨3, 7, IR.turned_out⟩) (hG : G.fn 12 = some ⟨2, 5, IR.without⟩) (n : Nat) {l m : PL} (hl : okF 0 l) (hm : okF 0 m) {A : AH} {Q : QE} {E : XQ} (h : Q (spd (wo l m)) A) : callN G (n + 2) 12 [spd l, spd m] A Q E := by
  have hll := okF_len' hl
  refine callN_mk hG rfl ?_
  unfold IR.without
  walk_at "wp"
  refine for_inv (fun j δ B => ∃ found d3 d4, δ = [some (spd l), some (spd m), some (spd found), d3, d4] ∧ B = A ∧ okF 0 found ∧ endF 0 found ≤ endF 0 (l.take j) ∧ ∀ k, hasD found k = (hasD (l.take j) k && !hasD m k)) (prs l) 0 ?_ ⟨[], none, none, rfl, rfl, True.intro, Int.le_refl _, fun _ => rfl⟩ ?_
  · rintro i x δ B N hi ⟨found, d3, d4, rfl, rfl, hf, he, hfk⟩ hN
    refine ⟨True.intro, ?_⟩
    obtain ⟨⟨s, e⟩, hy, rfl⟩ := List.getElem?_map ▸ hi |> Option.map_eq_some_iff.mp
    have hyo := okF_st hl (Int.le_refl _) (s, e) (List.mem_of_getElem? hy)
    rw [Nat.zero_add] at hN hfk he
    obtain ⟨h1, h2, h3, h4, h5, h6⟩ := okF_split hl hy
    rw [prD_eq]
    unfold IR.without_b1
    walk_at "wp"
    refine turned_out_ok hG11 n hm hyo.1 hyo.2.2 ?_
    have q1 : 0 ≤ s := hyo.1
    have q2 : s < e := hyo.2.1
    have q3 : e ≤ 100 := hyo.2.2
    have th := tn_has (l := m) q1 q3
    have t1 := tn_ok m s e
    have hr := okF_len' t1
    have hfl := okF_len' hf
    generalize tn m s e = r at th t1 hr ⊢
    have h1' : endF 0 (l.take i) ≤ s := h1
    have hrk : ∀ k, hasD r k = true → s ≤ k ∧ k < e := fun k hk => by
      rw [th] at hk; simp only [Bool.and_eq_true, decide_eq_true_eq] at hk; omega
    have t2 : okF (endF 0 found) r := okF_raise t1 fun k hk => by have := (hrk k hk).1; omega
    have hcat : okF 0 (found ++ r) := okF_app.mpr ⟨hf, t2⟩
    walk_at "wp"
    rw [← List.map_append]
    refine ⟨by rw [List.length_map, List.length_map]; exact Nat.le_trans (by omega : _ ≤ 100000) (by decide), ?_⟩
    refine hN _ _ ⟨found ++ r, _, _, rfl, rfl, hcat, ?_, fun k => ?_⟩
    · rw [endF_app, h5]
      exact endF_le t2 (fun k hk => (hrk k hk).2) (by show endF 0 found ≤ e + 1; omega)
    · rw [hasD_app, hfk, th, h4, hasD_app]
      show _ = ((_ || hasD [(s, e)] k) && _)
      rw [hasD_cons, hasD_nil, Bool.or_false, Bool.and_or_distrib_right]
  · rintro δ B ⟨found, d3, d4, rfl, rfl, hf, he, hfk⟩
    refine ⟨True.intro, ?_⟩
    rw [Nat.zero_add, show (prs l).length = l.length from List.length_map _, List.take_length] at hfk
    walk_at "wp"
    rw [show found = wo l m from is_form hf fun k _ _ => (hfk k).symm]
    exact ret_here h
/-- whether one spread lies within another -/
def wi (l m : PL) : Bool := decide (wo l m = [])
theorem wi_iff {l m : PL} (hl : okF 0 l) : wi l m = true ↔ ∀ k, hasD l k = true → hasD m k = true := by
  unfold wi
  rw [decide_eq_true_eq]
  constructor
  · intro h k hk
    have := wo_has (l := l) (m := m) hl k
    rw [h, hasD_nil, hk] at this
    cases e : hasD m k with
    | true => rfl
    | false => rw [e] at this; cases this
  · intro h
    refine okF_uniq (wo_ok l m) (lo' := 0) True.intro fun k => ?_
    rw [wo_has hl, hasD_nil]
    cases e : hasD l k with
    | false => rfl
    | true => rw [h k e]; rfl
theorem is_within_ok {G : Gm} (hG11 : G.fn 11 = some ⟨3, 7, IR.turned_out⟩) (hG12 : G.fn 12 = some ⟨2, 5, IR.without⟩) (hG : G.fn 13 = some ⟨2, 2, IR.is_within⟩) (n : Nat) {l m : PL} (hl : okF 0 l) (hm : okF 0 m) {A : AH} {Q : QE} {E : XQ} (h : Q (.bl (wi l m)) A) : callN G (n + 3) 13 [spd l, spd m] A Q E := by
  refine callN_mk hG rfl ?_
  unfold IR.is_within
  walk_at "wp"
  refine without_ok hG11 hG12 n hl hm ?_
  refine eq_any (e := .tup []) itr_spd (by unfold itr itrs; trivial) fun b hb => ?_
  refine ret_here ?_
  have : b = wi l m := by
    rw [Bool.eq_iff_iff, hb]
    unfold wi
    rw [decide_eq_true_eq]
    constructor
    · intro h; exact prs_inj (m := []) (D.tup.inj h)
    · intro h; rw [h]; rfl
  rw [this]; exact h
theorem lacking_ok {G : Gm} (hG11 : G.fn 11 = some ⟨3, 7, IR.turned_out⟩) (hG : G.fn 14 = some ⟨3, 3, IR.lacking⟩) (n : Nat) {l : PL} {a b : Int} (hl : okF 0 l) (ha : 0 ≤ a) (hb : b ≤ 100) {A : AH} {Q : QE} {E : XQ} (h : Q (spd (tn l a b)) A) : callN G (n + 2) 14 [spd l, .int a, .int b] A Q E := by
  refine callN_mk hG rfl ?_
  unfold IR.lacking
  walk_at "wp"
  exact turned_out_ok hG11 n hl ha hb (ret_here h)
theorem wpSs_app {c : CallT} {G : Gm} {P : Pst} : ∀ (s1 s2 : List IS) {δ : DSt} {A : AH}, wpSs c G (s1 ++ s2) P δ A ↔ wpSs c G s1 ⟨fun δ' A' => wpSs c G s2 P δ' A', P.rt, P.ct, P.ex⟩ δ A
  | [], s2, δ, A => Iff.rfl
  | s :: s1, s2, δ, A => by
    rw [List.cons_append, wq_scons, wq_scons]
    have : (fun δ' A' => wpSs c G (s1 ++ s2) P δ' A') = fun δ' A' => wpSs c G s1 ⟨fun δ' A' => wpSs c G s2 P δ' A', P.rt, P.ct, P.ex⟩ δ' A' := by
      funext δ' A'
      exact propext (wpSs_app s1 s2)
    rw [this]
theorem wpSs_cut (n : Nat) {c : CallT} {G : Gm} {P : Pst} {ss : List IS} {δ : DSt} {A : AH} (h : wpSs c G (ss.take n) ⟨fun δ' A' => wpSs c G (ss.drop n) P δ' A', P.rt, P.ct, P.ex⟩ δ A) : wpSs c G ss P δ A := by
  have := (wpSs_app (ss.take n) (ss.drop n)).mpr h
  rw [List.take_append_drop] at this
  exact this
theorem inV_bls (f : Int → Bool) : inV (flV (.bl true)) ((bls f).map flV) = true ↔ ∃ k, 0 ≤ k ∧ k < 100 ∧ f k = true := by
  unfold inV bls
  rw [List.map_map, List.any_map, List.any_eq_true]
  constructor
  · rintro ⟨k, hk, h⟩
    have hk := mem_rgI.mp hk
    have h : (f k == true) = true := h
    exact ⟨k, hk.1, hk.2, by cases e : f k with | true => rfl | false => rw [e] at h; cases h⟩
  · rintro ⟨k, h0, h1, e⟩
    exact ⟨k, mem_rgI.mpr ⟨h0, h1⟩, by show (f k == true) = true; rw [e]; rfl⟩
theorem flat_bls (f : Int → Bool) : (bls f).all flatD = true := by
  unfold bls; rw [List.all_map]; exact List.all_eq_true.mpr fun _ _ => rfl
theorem nin_bls {a : Addr} {f : Int → Bool} {A : AH} {Q : QE} (h : A a = some (.lst (bls f))) (k : ∀ v, (v = true ↔ ∀ k, 0 ≤ k → k < 100 → f k = false) → Q (.bl v) A) : dCmp .nin (.bl true) (.ref a) A Q := by
  simp only [dCmp, seq_ref h, flat_bls, flatD, true_and]
  refine k _ ?_
  rw [Bool.not_eq_true', Bool.eq_false_iff, Ne, inV_bls]
  constructor
  · intro h k h0 h1
    cases e : f k with
    | false => rfl
    | true => exact absurd ⟨k, h0, h1, e⟩ h
  · rintro h ⟨k, h0, h1, e⟩
    rw [h k h0 h1] at e; cases e
theorem eqL_any {a b : Addr} {ds es : List D} {A : AH} {Q : QE} (ha : A a = some (.lst ds)) (hb : A b = some (.lst es)) (hd : itrs 5 ds) (he : itrs 5 es) (h : ∀ v, (v = true ↔ ds = es) → Q (.bl v) A) : dCmp .eq (.ref a) (.ref b) A Q := by
  obtain ⟨ps, qs, h3, h4, h5⟩ := eqps (A := A) (eqp 5) ds es hd he
  have e1 : pd A 6 (.ref a) = some (.list ps) := by simp only [pd, ha, h3]; rfl
  have e2 : pd A 6 (.ref b) = some (.list qs) := by simp only [pd, hb, h4]; rfl
  simp only [dCmp, e1, e2]
  exact h _ (by simp only [PyData.eqv]; exact h5)
theorem comp_bls {tg : Tg} {g : AH → Prop} {e : WE} {c : CallT} {G : Gm} {δ : DSt} {A : AH} {Q : QE} (f : Int → Bool) (hg : g A) (he : ∀ k : Int, 0 ≤ k → k < 100 → ∀ R : QE, R (.bl (f k)) A → gAsg tg (.int k) δ A fun δ' => e δ' A R fun _ _ => False) (h : newL A (bls f) Q) : dComp tg g (wpT c G .yes) e δ (rgD 0 100) [] A Q := by
  refine comp_map (f := fun d => match d with | .int k => .bl (f k) | _ => .non) hg (fun x hx R hr => ?_) ?_
  · rw [rgD_eq] at hx
    obtain ⟨j, hj, rfl⟩ := List.mem_map.mp hx
    have hj := mem_rgI.mp hj
    exact he j hj.1 hj.2 R hr
  · rw [List.nil_append]
    have : (rgD 0 100).map (fun d => match d with | .int k => D.bl (f k) | _ => .non) = bls f := by rw [rgD_eq, List.map_map]; rfl
    rw [this]; exact h
theorem rg100 : (rgD 0 100).length ≤ sizeLine := by rw [rgD_len]; decide
end DP

set_option Elab.async false
set_option linter.all false
set_option maxRecDepth 100000
namespace DP
open DL PySem
open L2 hiding prD
local macro_rules | `(tactic| walk_at "wp") => `(tactic| try simp only [startD, List.map_cons, List.map_nil, List.length_cons, List.length_nil, Nat.zero_add, Nat.reduceAdd, Nat.reduceSub, List.replicate_succ, List.replicate_zero, List.cons_append, List.nil_append, List.set_cons_zero, List.set_cons_succ, setAll, wipeD,
  wq_var0, wq_var1, wq_var2, wq_var3, wq_var4, wq_var5, wq_var6, wq_var7, wq_var8, wq_var9, wq_var10, wq_var11, wq_var12, wq_var13, wq_var14, wq_var15, wq_cst, wq_tup, wq_lst, wq_bin, wq_neg, wq_cmp, wq_chn, wq_isn, wq_isb, wq_notv, wq_andv, wq_orv, wq_ite, wq_call, wq_bi, wq_isi, wq_rgl, wq_ix, wq_cut, wq_rev, wq_comp, wq_bm, wq_nil, wq_cons, wq_on, wq_os, wq_val, wq_and, wq_or, wq_not, wq_yes, wq_snil, wq_scons, wq_set, wq_tset, wq_par, wq_sub, wq_expr, wq_if, wq_for, wq_whil, wq_ret, wq_pass, wq_cont, end_rt, end_nx,
  x_addI, x_addT, x_addS, x_sub, x_mul, x_fdiv, x_mod, x_lt, x_le, x_gt, x_ge, x_eqI, x_neI, x_bTst, x_truB, x_truN, x_truI, x_truT, x_truR, x_lenT, x_lenR, x_tupT, x_lstT, x_min2, x_max2, x_intB, x_intI, x_cutT, x_revT, x_srcT, x_srcR, x_rng1, x_rng2, x_zip, x_rgl1, x_rgl2, g_nm, g_tp, g_cons, g_nil, ty_app, ty_ext, ty_pop, ty_popi, if_true, if_false, Bool.false_eq_true, Bool.true_eq_false, Bool.not_true, Bool.not_false, len2_ok, len0_ok, true_and, isNonD])

/-! first_free -/
def ffO (l : PL) (long a b : Int) : Option Int := ((tn l a b).find? fun p => decide (long ≤ p.2 - p.1)).map (·.1)
def optD : Option Int → D | some k => .int k | none => .non
theorem first_free_ok {G : Gm} (hG11 : G.fn 11 = some ⟨3, 7, IR.turned_out⟩) (hG : G.fn 15 = some ⟨4, 6, IR.first_free⟩) (n : Nat) {l : PL} {long a b : Int} (hl : okF 0 l) (ha : 0 ≤ a) (hb : b ≤ 100) {A : AH} {Q : QE} {E : XQ} (h : Q (optD (ffO l long a b)) A) : callN G (n + 2) 15 [spd l, .int long, .int a, .int b] A Q E := by
  refine callN_mk hG rfl ?_
  unfold IR.first_free
  walk_at "wp"
  refine turned_out_ok hG11 n hl ha hb ?_
  unfold ffO at h
  generalize tn l a b = r at h ⊢
  walk_at "wp"
  refine for_inv (fun j δ B => ∃ d4 d5, δ = [some (spd l), some (.int long), some (.int a), some (.int b), d4, d5] ∧ B = A ∧ (r.take j).find? (fun p => decide (long ≤ p.2 - p.1)) = none) (prs r) 0 ?_ ⟨none, none, rfl, rfl, rfl⟩ ?_
  · rintro i x δ B N hi ⟨d4, d5, rfl, rfl, hf⟩ hN
    refine ⟨True.intro, ?_⟩
    obtain ⟨⟨s, e⟩, hy, rfl⟩ := List.getElem?_map ▸ hi |> Option.map_eq_some_iff.mp
    rw [Nat.zero_add] at hN hf
    have e1 : r.take (i + 1) = r.take i ++ [(s, e)] := by rw [List.take_add_one, hy]; rfl
    rw [prD_eq]
    unfold IR.first_free_b1
    walk_at "wp"
    cases c : decide (long ≤ e - s) with
    | false =>
      rw [if_neg (by decide)]
      refine hN _ _ ⟨_, _, rfl, rfl, ?_⟩
      rw [e1, List.find?_append, hf]
      simp [c]
    | true =>
      rw [if_pos rfl]
      refine ret_here ?_
      have : r.find? (fun p => decide (long ≤ p.2 - p.1)) = some (s, e) := by
        have e2 : r = r.take (i + 1) ++ r.drop (i + 1) := (List.take_append_drop _ _).symm
        rw [e2, List.find?_append, e1, List.find?_append, hf]
        simp [c]
      rw [this] at h
      exact h
  · rintro δ B ⟨d4, d5, rfl, rfl, hf⟩
    refine ⟨True.intro, ?_⟩
    walk_at "wp"
    rw [Nat.zero_add, show (prs r).length = r.length from List.length_map _, List.take_length] at hf
    rw [hf] at h
    exact ret_here h
theorem okF_run {k n : Int} (hn : 0 < n) : ∀ {r : PL} {lo : Int}, okF lo r → (∀ j, k ≤ j → j < k + n → hasD r j = true) → ∃ p ∈ r, p.1 ≤ k ∧ k + n ≤ p.2
  | [], _, _, h => by have := h k (Int.le_refl _) (by omega); cases this
  | p :: r, lo, ⟨a, b, c, d⟩, h => by
    rcases hasD_consT.mp (h k (Int.le_refl _) (by omega)) with h1 | h1
    · refine ⟨p, List.mem_cons_self, h1.1, ?_⟩
      by_cases e : k + n ≤ p.2
      · exact e
      · rcases hasD_consT.mp (h p.2 (by omega) (by omega)) with h2 | h2
        · omega
        · have := okF_low d h2; omega
    · have hlow := okF_low d h1
      obtain ⟨q, hq, h2⟩ := okF_run hn d fun j hj1 hj2 => by
        rcases hasD_consT.mp (h j hj1 hj2) with h3 | h3
        · omega
        · exact h3
      exact ⟨q, List.mem_cons_of_mem _ hq, h2⟩
/-- so many keys from a key on are free, within a stretch -/
def free (l : PL) (long a b k : Int) : Prop := a ≤ k ∧ k + long ≤ b ∧ ∀ j, k ≤ j → j < k + long → hasD l j = false
theorem okF_sorted : ∀ {r : PL} {lo : Int}, okF lo r → r.Pairwise fun p q => p.2 < q.1
  | [], _, _ => List.Pairwise.nil
  | p :: r, lo, ⟨a, b, c, d⟩ => List.pairwise_cons.mpr ⟨fun q hq => by
      have : ∀ {r : PL} {lo : Int}, okF lo r → ∀ q ∈ r, lo ≤ q.1 := by
        intro r
        induction r with
        | nil => intro _ _ q hq; cases hq
        | cons x r ih =>
          intro lo h q hq
          rcases List.mem_cons.mp hq with rfl | hq
          · exact h.1
          · have := ih h.2.2.2 q hq; have := h.1; have := h.2.1; omega
      have := this d q hq; omega, okF_sorted d⟩
theorem ff_some {l : PL} {long a b k : Int} (ha : 0 ≤ a) (hb : b ≤ 100) (hl : 0 < long) (h : ffO l long a b = some k) : free l long a b k ∧ ∀ k', free l long a b k' → k ≤ k' := by
  unfold ffO at h
  have th := tn_has (l := l) ha hb
  have tk := tn_ok l a b
  generalize tn l a b = r at h th tk
  obtain ⟨p, hp, rfl⟩ := Option.map_eq_some_iff.mp h
  have hm := List.mem_of_find?_eq_some hp
  have hpp := List.find?_some hp
  rw [decide_eq_true_eq] at hpp
  have hpo := okF_st tk (Int.le_refl _) p hm
  have hpo1 := hpo.2.1
  have hin : ∀ j, p.1 ≤ j → j < p.2 → a ≤ j ∧ j < b ∧ hasD l j = false := fun j h1 h2 => by
    have : hasD r j = true := hasD_mem.mpr ⟨p, hm, h1, h2⟩
    rw [th] at this
    simp only [Bool.and_eq_true, decide_eq_true_eq, Bool.not_eq_true'] at this
    exact ⟨this.1.1, this.1.2, this.2⟩
  refine ⟨⟨(hin p.1 (Int.le_refl _) hpo1).1, ?_, fun j h1 h2 => (hin j h1 (by omega)).2.2⟩, fun k' hk' => ?_⟩
  · have := hin (p.2 - 1) (by omega) (by omega); omega
  · obtain ⟨q, hq, h1, h2⟩ := okF_run hl tk (k := k') fun j h1 h2 => by
      rw [th, hk'.2.2 j h1 h2, decide_eq_true (by have := hk'.1; omega), decide_eq_true (by have := hk'.2.1; omega)]; rfl
    have hs := okF_sorted tk
    obtain ⟨as, bs, e1, e2⟩ := List.find?_eq_some_iff_append.mp hp |>.2
    rw [e1] at hq hs
    rcases List.mem_append.mp hq with hq | hq
    · have := e2 q hq
      simp only [Bool.not_eq_true', decide_eq_false_iff_not] at this
      omega
    · rcases List.mem_cons.mp hq with rfl | hq
      · exact h1
      · have := (List.pairwise_cons.mp (List.pairwise_append.mp hs).2.1).1 q hq
        omega
theorem ff_none {l : PL} {long a b : Int} (ha : 0 ≤ a) (hb : b ≤ 100) (hl : 0 < long) (h : ffO l long a b = none) : ∀ k, ¬ free l long a b k := by
  intro k hk
  unfold ffO at h
  have th := tn_has (l := l) ha hb
  have tk := tn_ok l a b
  generalize tn l a b = r at h th tk
  obtain ⟨q, hq, h1, h2⟩ := okF_run hl tk (k := k) fun j h1 h2 => by
    rw [th, hk.2.2 j h1 h2, decide_eq_true (by have := hk.1; omega), decide_eq_true (by have := hk.2.1; omega)]; rfl
  have := List.find?_eq_none.mp (Option.map_eq_none_iff.mp h) q hq
  simp only [decide_eq_true_eq] at this
  omega
/-! parts -/
theorem size_app' (l m : PL) : sizeOf' (l ++ m) = sizeOf' l + sizeOf' m := by
  unfold sizeOf'; rw [List.map_append, List.sum_append]
theorem size_one' (p : Int × Int) : sizeOf' [p] = p.2 - p.1 := by unfold sizeOf'; simp
theorem size_cons' (p : Int × Int) (r : PL) : sizeOf' (p :: r) = (p.2 - p.1) + sizeOf' r := by unfold sizeOf'; simp
def pcs (m : Int) : Nat → Int → Int → PL
  | 0, a, b => [(a, b)]
  | n + 1, a, b => if m < b - a then (a, a + m) :: pcs m n (a + m) b else [(a, b)]
def partsL (l : PL) (m : Int) : PL := l.flatMap fun p => pcs m 100 p.1 p.2
theorem pcs_len (m : Int) : ∀ n a b, (pcs m n a b).length ≤ n + 1
  | 0, _, _ => Nat.le_refl _
  | n + 1, a, b => by
    unfold pcs
    split
    · rw [List.length_cons]; have := pcs_len m n (a + m) b; omega
    · simp
theorem pcs_ok {m : Int} (hm : 0 < m) : ∀ n a b, 0 ≤ a → a < b → b ≤ 100 → (∀ p ∈ pcs m n a b, okSt p ∧ a ≤ p.1 ∧ p.2 ≤ b) ∧ (∀ k, hasD (pcs m n a b) k = (decide (a ≤ k) && decide (k < b))) ∧ sizeOf' (pcs m n a b) = b - a
  | 0, a, b, h0, h1, h2 => ⟨fun p hp => by rw [List.mem_singleton.mp hp]; exact ⟨⟨h0, h1, h2⟩, Int.le_refl _, Int.le_refl _⟩, fun k => by unfold pcs; rw [hasD_cons, hasD_nil, Bool.or_false], by unfold pcs; rw [size_one']⟩
  | n + 1, a, b, h0, h1, h2 => by
    unfold pcs
    split
    · next c =>
      obtain ⟨i1, i2, i3⟩ := pcs_ok hm n (a + m) b (by omega) (by omega) h2
      refine ⟨fun p hp => ?_, fun k => ?_, ?_⟩
      · rcases List.mem_cons.mp hp with rfl | hp
        · exact ⟨⟨h0, by dsimp only; omega, by dsimp only; omega⟩, Int.le_refl _, by dsimp only; omega⟩
        · have := i1 p hp; exact ⟨this.1, by omega, this.2.2⟩
      · rw [hasD_cons, i2, Bool.eq_iff_iff]; simp only [Bool.or_eq_true, Bool.and_eq_true, decide_eq_true_eq]; omega
      · rw [size_cons', i3]; dsimp only; omega
    · exact ⟨fun p hp => by rw [List.mem_singleton.mp hp]; exact ⟨⟨h0, h1, h2⟩, Int.le_refl _, Int.le_refl _⟩, fun k => by rw [hasD_cons, hasD_nil, Bool.or_false], by rw [size_one']⟩
theorem pcs_short {m : Int} (hm : 0 < m) : ∀ (n : Nat) (a b : Int), b - a ≤ n → 0 < b - a → ∀ p ∈ pcs m n a b, p.2 - p.1 ≤ m
  | 0, a, b, h, h2, p, hp => by omega
  | n + 1, a, b, h, h2, p, hp => by
    unfold pcs at hp
    split at hp
    · rcases List.mem_cons.mp hp with rfl | hp
      · dsimp only; omega
      · exact pcs_short hm n (a + m) b (by omega) (by omega) p hp
    · rw [List.mem_singleton.mp hp]; dsimp only; omega
theorem parts_while {c : CallT} {G : Gm} {x0 : Option D} {p : Addr} {A : AH} {m b : Int} (hm : 0 < m) (hb : b ≤ 100) : ∀ (f : Nat) (P : Pst) (acc : PL) (a : Int), b - a ≤ f → a < b → 0 ≤ a → acc.length + f < 100000 →
    (∀ (acc' : PL) (a' : Int), acc' ++ [(a', b)] = acc ++ pcs m f a b → acc'.length < 100000 → P.nx [x0, some (.int m), some (.ref p), some (.int a'), some (.int b)] (up A p (.lst (prs acc')))) →
    dWhile (wpT c G (.val (.cmp .gt (.bin .sub (.var 4) (.var 3)) (.var 1)))) (wpSs c G IR.parts_b1) (f + 1) P [x0, some (.int m), some (.ref p), some (.int a), some (.int b)] (up A p (.lst (prs acc)))
  | 0, P, acc, a, h1, h2, h3, hz, h => by omega
  | f + 1, P, acc, a, h1, h2, h3, hz, h => by
    unfold dWhile
    walk_at "wp"
    unfold pcs at h
    cases e : decide (m < b - a) with
    | false =>
      have e := of_decide_eq_false e
      rw [if_neg e] at h
      rw [if_neg (by decide)]
      exact h acc a rfl (by omega)
    | true =>
      have e := of_decide_eq_true e
      rw [if_pos e] at h
      rw [if_pos rfl]
      have ih := parts_while (c := c) (G := G) (x0 := x0) (p := p) (A := A) hm hb f P (acc ++ [(a, a + m)]) (a + m) (by omega) (by omega) (by omega) (by rw [List.length_append]; simp; omega) fun acc' a' h1 h2 => h acc' a' (by rw [h1, List.append_assoc]; rfl) h2
      unfold IR.parts_b1 at ih ⊢
      walk_at "wp"
      rw [x_isL up_same, x_app up_same, up_up]
      refine ⟨True.intro, by rw [List.length_map]; exact Nat.lt_of_lt_of_le (by omega : _ < 100000) (by decide), ?_⟩
      rw [prs, List.map_append] at ih
      exact ih
theorem parts_ok {G : Gm} (hG : G.fn 16 = some ⟨2, 5, IR.parts⟩) (n : Nat) {l : PL} {m : Int} (hl : okF 0 l) (hm : 0 < m) {A : AH} {Q : QE} {E : XQ} (h : Q (spd (partsL l m)) A) : callN G (n + 1) 16 [spd l, .int m] A Q E := by
  have hll := okF_len' hl
  refine callN_mk hG rfl ?_
  unfold IR.parts
  walk_at "wp"
  intro p np
  walk_at "wp"
  refine for_inv (fun j δ B => ∃ d3 d4, δ = [some (spd l), some (.int m), some (.ref p), d3, d4] ∧ B = up A p (.lst (prs (partsL (l.take j) m)))) (prs l) 0 ?_ ⟨none, none, rfl, rfl⟩ ?_
  · rintro i x δ B N hi ⟨d3, d4, rfl, rfl⟩ hN
    refine ⟨True.intro, ?_⟩
    obtain ⟨⟨a, b⟩, hy, rfl⟩ := List.getElem?_map ▸ hi |> Option.map_eq_some_iff.mp
    have hil := (List.getElem?_eq_some_iff.mp hy).1
    have hyo := okF_st hl (Int.le_refl _) (a, b) (List.mem_of_getElem? hy)
    have q1 : 0 ≤ a := hyo.1
    have q2 : a < b := hyo.2.1
    have q3 : b ≤ 100 := hyo.2.2
    rw [Nat.zero_add] at hN ⊢
    have ep : partsL (l.take (i + 1)) m = partsL (l.take i) m ++ pcs m 100 a b := by
      rw [List.take_add_one, hy]; unfold partsL; rw [List.flatMap_append]; simp
    have el : ∀ l' : PL, (partsL l' m).length ≤ 101 * l'.length := by
      intro l'
      induction l' with
      | nil => exact Nat.le_refl _
      | cons x r ih =>
        have e9 : partsL (x :: r) m = pcs m 100 x.1 x.2 ++ partsL r m := by unfold partsL; rw [List.flatMap_cons]
        have := pcs_len m 100 x.1 x.2
        rw [e9, List.length_append, List.length_cons]; omega
    have el := el (l.take i)
    rw [List.length_take] at el
    rw [prD_eq]
    unfold IR.parts_b2
    walk_at "wp"
    refine ⟨101, parts_while hm q3 100 _ (partsL (l.take i) m) a (by omega) q2 q1 (by omega) fun acc' a' e hz => ?_⟩
    walk_at "wp"
    rw [x_isL up_same, x_app up_same, up_up]
    refine ⟨True.intro, by rw [List.length_map]; exact Nat.lt_of_lt_of_le hz (by decide), ?_⟩
    refine hN _ _ ⟨_, _, rfl, ?_⟩
    rw [ep, ← e, prs, prs, List.map_append]; rfl
  · rintro δ B ⟨d3, d4, rfl, rfl⟩
    refine ⟨True.intro, ?_⟩
    rw [Nat.zero_add, show (prs l).length = l.length from List.length_map _, List.take_length]
    walk_at "wp"
    rw [x_tupL up_same]
    exact ret_at (DL.Sub.new np) h
theorem parts_mem {l : PL} {m : Int} (hl : okF 0 l) (hm : 0 < m) : (∀ p ∈ partsL l m, okSt p) ∧ (∀ k, hasD (partsL l m) k = hasD l k) ∧ (∀ p ∈ partsL l m, p.2 - p.1 ≤ m) ∧ sizeOf' (partsL l m) = sizeOf' l ∧ (partsL l m).length ≤ 101 * l.length := by
  have hst := okF_st hl (Int.le_refl _)
  clear hl
  induction l with
  | nil => exact ⟨fun p hp => (by cases hp), fun _ => rfl, fun p hp => (by cases hp), rfl, Nat.le_refl _⟩
  | cons x r ih =>
    obtain ⟨i1, i2, i3, i4, i5⟩ := ih fun p hp => hst p (List.mem_cons_of_mem _ hp)
    have hx := hst x List.mem_cons_self
    have hx1 := hx.1; have hx2 := hx.2.1; have hx3 := hx.2.2
    obtain ⟨j1, j2, j3⟩ := pcs_ok hm 100 x.1 x.2 hx1 hx2 hx3
    have e9 : partsL (x :: r) m = pcs m 100 x.1 x.2 ++ partsL r m := by unfold partsL; rw [List.flatMap_cons]
    rw [e9]
    refine ⟨fun p hp => ?_, fun k => ?_, fun p hp => ?_, ?_, ?_⟩
    · rcases List.mem_append.mp hp with hp | hp
      · exact (j1 p hp).1
      · exact i1 p hp
    · rw [hasD_app, i2, j2, hasD_cons]
    · rcases List.mem_append.mp hp with hp | hp
      · exact pcs_short hm 100 x.1 x.2 (by omega) (by omega) p hp
      · exact i3 p hp
    · rw [size_app', j3, i4, size_cons']
    · have := pcs_len m 100 x.1 x.2
      rw [List.length_append, List.length_cons]; omega
end DP

set_option Elab.async false
set_option linter.all false
set_option maxRecDepth 100000
namespace DP
open DL PySem
open L2 hiding prD
local macro_rules | `(tactic| walk_at "wp") => `(tactic| try simp only [startD, List.map_cons, List.map_nil, List.length_cons, List.length_nil, Nat.zero_add, Nat.reduceAdd, Nat.reduceSub, List.replicate_succ, List.replicate_zero, List.cons_append, List.nil_append, List.set_cons_zero, List.set_cons_succ, setAll, wipeD,
  wq_var0, wq_var1, wq_var2, wq_var3, wq_var4, wq_var5, wq_var6, wq_var7, wq_var8, wq_var9, wq_var10, wq_var11, wq_var12, wq_var13, wq_var14, wq_var15, wq_cst, wq_tup, wq_lst, wq_bin, wq_neg, wq_cmp, wq_chn, wq_isn, wq_isb, wq_notv, wq_andv, wq_orv, wq_ite, wq_call, wq_bi, wq_isi, wq_rgl, wq_ix, wq_cut, wq_rev, wq_comp, wq_bm, wq_nil, wq_cons, wq_on, wq_os, wq_val, wq_and, wq_or, wq_not, wq_yes, wq_snil, wq_scons, wq_set, wq_tset, wq_par, wq_sub, wq_expr, wq_if, wq_for, wq_whil, wq_ret, wq_pass, wq_cont, end_rt, end_nx,
  x_addI, x_addT, x_addS, x_sub, x_mul, x_fdiv, x_mod, x_lt, x_le, x_gt, x_ge, x_eqI, x_neI, x_bTst, x_truB, x_truN, x_truI, x_truT, x_truR, x_lenT, x_lenR, x_tupT, x_lstT, x_min2, x_max2, x_intB, x_intI, x_cutT, x_revT, x_srcT, x_srcR, x_rng1, x_rng2, x_zip, x_rgl1, x_rgl2, g_nm, g_tp, g_cons, g_nil, ty_app, ty_ext, ty_pop, ty_popi, if_true, if_false, Bool.false_eq_true, Bool.true_eq_false, Bool.not_true, Bool.not_false, len2_ok, len0_ok, true_and, isNonD])

/-! asks, cost_of, waste -/
def ak1 (cost : Int) (acc : PL) (p : Int × Int) : PL := match acc.getLast? with
  | some l => if p.1 - l.2 < cost then acc.dropLast ++ [(l.1, p.2)] else acc ++ [p]
  | none => [p]
def asksL (l : PL) (cost : Int) : PL := l.foldl (ak1 cost) []
theorem ak1_nil (cost : Int) (p : Int × Int) : ak1 cost [] p = [p] := rfl
theorem ak1_snoc (cost : Int) (i : PL) (l p : Int × Int) : ak1 cost (i ++ [l]) p = if p.1 - l.2 < cost then i ++ [(l.1, p.2)] else i ++ [l] ++ [p] := by
  unfold ak1
  rw [List.getLast?_append]
  simp
theorem ak1_len (cost : Int) (acc : PL) (p : Int × Int) : (ak1 cost acc p).length ≤ acc.length + 1 := by
  rcases nil_or_snoc acc with rfl | ⟨i, l, rfl⟩
  · exact Nat.le_refl _
  · rw [ak1_snoc]; split <;> simp
def akR (cost : Int) : Int × Int → PL → PL
  | c, [] => [c]
  | c, p :: r => if p.1 - c.2 < cost then akR cost (c.1, p.2) r else c :: akR cost p r
theorem ak_fold (cost : Int) : ∀ (l i : PL) (c : Int × Int), l.foldl (ak1 cost) (i ++ [c]) = i ++ akR cost c l
  | [], i, c => rfl
  | p :: r, i, c => by
    rw [List.foldl_cons, ak1_snoc]
    unfold akR
    split
    · exact ak_fold cost r i _
    · rw [ak_fold cost r (i ++ [c]) p, List.append_assoc]; rfl
theorem asksL_cons (cost : Int) (c : Int × Int) (l : PL) : asksL (c :: l) cost = akR cost c l := by
  unfold asksL
  rw [List.foldl_cons, ak1_nil, show [c] = [] ++ [c] from rfl, ak_fold, List.nil_append]
/-- a key lies in a gap behind e that is less than the cost -/
def gp (cost : Int) : Int → PL → Int → Prop
  | _, [], _ => False
  | e, p :: r, k => (e ≤ k ∧ k < p.1 ∧ p.1 - e < cost) ∨ gp cost p.2 r k
theorem gp_mono {c c' : Int} (h : c ≤ c') : ∀ {r : PL} {e k : Int}, gp c e r k → gp c' e r k
  | [], _, _, g => g
  | p :: r, e, k, .inl ⟨a, b, d⟩ => .inl ⟨a, b, by omega⟩
  | p :: r, e, k, .inr g => .inr (gp_mono h g)
theorem akR_ok (cost : Int) : ∀ (l : PL) (c : Int × Int) (lo : Int), lo ≤ c.1 → c.1 < c.2 → c.2 ≤ 100 → okF (c.2 + 1) l → okF lo (akR cost c l) ∧ ∀ k, hasD (akR cost c l) k = true ↔ hasD (c :: l) k = true ∨ gp cost c.2 l k
  | [], c, lo, h1, h2, h3, _ => ⟨⟨h1, h2, h3, True.intro⟩, fun k => ⟨.inl, fun h => h.elim id fun h => h.elim⟩⟩
  | p :: r, c, lo, h1, h2, h3, ⟨a, b, d, e⟩ => by
    unfold akR
    split
    · next hc =>
      obtain ⟨i1, i2⟩ := akR_ok cost r (c.1, p.2) lo h1 (by dsimp only; omega) d e
      refine ⟨i1, fun k => ?_⟩
      rw [i2, hasD_consT, hasD_consT, hasD_consT]
      show ((c.1 ≤ k ∧ k < p.2) ∨ hasD r k = true) ∨ gp cost p.2 r k ↔ _ ∨ ((c.2 ≤ k ∧ k < p.1 ∧ p.1 - c.2 < cost) ∨ gp cost p.2 r k)
      constructor
      · rintro ((h | h) | h)
        · by_cases x : k < c.2
          · exact .inl (.inl ⟨h.1, x⟩)
          · by_cases y : k < p.1
            · exact .inr (.inl ⟨by omega, y, hc⟩)
            · exact .inl (.inr (.inl ⟨by omega, h.2⟩))
        · exact .inl (.inr (.inr h))
        · exact .inr (.inr h)
      · rintro ((h | h | h) | h | h)
        · exact .inl (.inl ⟨h.1, by omega⟩)
        · exact .inl (.inl ⟨by omega, h.2⟩)
        · exact .inl (.inr h)
        · exact .inl (.inl ⟨by omega, by omega⟩)
        · exact .inr h
    · next hc =>
      obtain ⟨i1, i2⟩ := akR_ok cost r p (c.2 + 1) a b d e
      refine ⟨⟨h1, h2, h3, i1⟩, fun k => ?_⟩
      rw [hasD_consT, i2, hasD_consT (p := c)]
      show _ ∨ (_ ∨ gp cost p.2 r k) ↔ _ ∨ ((c.2 ≤ k ∧ k < p.1 ∧ p.1 - c.2 < cost) ∨ gp cost p.2 r k)
      constructor
      · rintro (h | h | h)
        · exact .inl (.inl h)
        · exact .inl (.inr h)
        · exact .inr (.inr h)
      · rintro ((h | h) | h | h)
        · exact .inl h
        · exact .inr (.inl h)
        · exact absurd h.2.2 hc
        · exact .inr (.inr h)
theorem asks_okF {l : PL} (hl : okF 0 l) (cost : Int) : okF 0 (asksL l cost) := by
  cases l with
  | nil => exact True.intro
  | cons c r => rw [asksL_cons]; exact (akR_ok cost r c 0 hl.1 hl.2.1 hl.2.2.1 hl.2.2.2).1
theorem asks_sub {l : PL} (hl : okF 0 l) (cost : Int) {k : Int} (h : hasD l k = true) : hasD (asksL l cost) k = true := by
  cases l with
  | nil => cases h
  | cons c r => rw [asksL_cons]; exact ((akR_ok cost r c 0 hl.1 hl.2.1 hl.2.2.1 hl.2.2.2).2 k).mpr (.inl h)
theorem asks_mono {l : PL} (hl : okF 0 l) {c c' : Int} (hc : c ≤ c') {k : Int} (h : hasD (asksL l c) k = true) : hasD (asksL l c') k = true := by
  cases l with
  | nil => cases h
  | cons x r =>
    rw [asksL_cons] at h ⊢
    rcases ((akR_ok c r x 0 hl.1 hl.2.1 hl.2.2.1 hl.2.2.2).2 k).mp h with h | h
    · exact ((akR_ok c' r x 0 hl.1 hl.2.1 hl.2.2.1 hl.2.2.2).2 k).mpr (.inl h)
    · exact ((akR_ok c' r x 0 hl.1 hl.2.1 hl.2.2.1 hl.2.2.2).2 k).mpr (.inr (gp_mono hc h))
def costL (l : PL) (cost : Int) : Int := (l.map fun p => cost + p.2 - p.1).sum
theorem costL_cons (p : Int × Int) (r : PL) (c : Int) : costL (p :: r) c = (c + p.2 - p.1) + costL r c := by unfold costL; simp
theorem akR_cost (cost : Int) : ∀ (l : PL) (c : Int × Int), costL (akR cost c l) cost ≤ costL (c :: l) cost
  | [], c => Int.le_refl _
  | p :: r, c => by
    unfold akR
    split
    · next hc =>
      have := akR_cost cost r (c.1, p.2)
      rw [costL_cons] at this ⊢
      rw [costL_cons]
      dsimp only at this
      omega
    · have := akR_cost cost r p
      rw [costL_cons, costL_cons c]; omega
theorem asks_cost (l : PL) (cost : Int) : costL (asksL l cost) cost ≤ costL l cost := by
  cases l with
  | nil => exact Int.le_refl _
  | cons c r => rw [asksL_cons]; exact akR_cost cost r c
theorem asks_loop {c : CallT} {G : Gm} {p : Addr} {x0 : Option D} {cost : Int} {P : Pst} : ∀ (rest acc : PL) (A : AH) (d3 d4 : Option D), A p = some (.lst (prs acc)) → acc.length + rest.length < 100000 →
    (∀ d3 d4, P.nx [x0, some (.int cost), some (.ref p), d3, d4] (up A p (.lst (prs (rest.foldl (ak1 cost) acc))))) → dFor (.tp [.nm 3, .nm 4]) (fun _ => True) (wpSs c G IR.asks_b1) (prs rest) P [x0, some (.int cost), some (.ref p), d3, d4] A
  | [], acc, A, d2, d3, hp, hz, h => by
    have h := h d2 d3
    rw [List.foldl_nil, up_id hp] at h
    exact ⟨True.intro, h⟩
  | y :: rest, acc, A, d2, d3, hp, hz, h => by
    rw [prs, List.map_cons, for_cons, prD_eq]
    refine ⟨True.intro, ?_⟩
    have ih := fun acc' (hz' : acc'.length + rest.length < 100000) (h' : ∀ d2 d3, P.nx [x0, some (.int cost), some (.ref p), d2, d3] (up (up A p (.lst (prs acc'))) p (.lst (prs (rest.foldl (ak1 cost) acc'))))) => asks_loop (c := c) (G := G) rest acc' (up A p (.lst (prs acc'))) (some (.int y.1)) (some (.int y.2)) up_same hz' h'
    have ih := ih (ak1 cost acc y) (by have := ak1_len cost acc y; rw [List.length_cons] at hz; omega) (by intro d2 d3; rw [up_up]; exact h d2 d3)
    unfold IR.asks_b1
    walk_at "wp"
    rw [x_truL hp]
    rw [List.length_cons] at hz
    rcases nil_or_snoc acc with rfl | ⟨i, l, rfl⟩
    · walk_at "wp"
      simp only [List.map_nil, List.isEmpty_nil, Bool.not_true, Bool.false_eq_true, if_false, x_isL hp, x_app hp, true_and, List.length_nil]
      exact ⟨by decide, ih⟩
    · rw [prs, List.map_append, List.map_singleton] at hp
      have e0 : L2.atI (List.map prD i ++ [prD l]) (-1) = some (prD l) := atI_last _ _
      rw [ak1_snoc] at ih
      simp only [List.map_append, List.map_singleton, isEmpty_snoc, Bool.not_false, if_true, x_ixL hp e0, prD_eq, x_ixT (atI1 _ _ _), x_ixT (atI0 _ _), x_lt, x_sub, x_truB, decide_eq_true_eq, wq_var3, wq_nil, wq_cons]
      split
      · next hle =>
        rw [if_pos hle] at ih
        rw [dSub_last hp]
        simp only [prs, List.map_append, List.map_singleton, prD_eq] at ih
        exact ih
      · next hle =>
        rw [if_neg hle] at ih
        simp only [x_isL hp, x_app hp, true_and]
        refine ⟨?_, ?_⟩
        · rw [List.length_append, List.length_map, List.length_singleton]
          rw [List.length_append, List.length_singleton] at hz
          exact Nat.lt_of_lt_of_le (by omega : _ < 100000) (by decide)
        · simp only [prs, List.map_append, List.map_singleton, prD_eq] at ih
          exact ih
theorem asks_ok {G : Gm} (hG : G.fn 17 = some ⟨2, 5, IR.asks⟩) (n : Nat) {l : PL} {cost : Int} (hl : okF 0 l) {A : AH} {Q : QE} {E : XQ} (h : Q (spd (asksL l cost)) A) : callN G (n + 1) 17 [spd l, .int cost] A Q E := by
  have hll := okF_len' hl
  refine callN_mk hG rfl ?_
  unfold IR.asks
  walk_at "wp"
  intro p np
  walk_at "wp"
  refine asks_loop l [] _ none none up_same (by simp; omega) fun d3 d4 => ?_
  walk_at "wp"
  rw [up_up, x_tupL up_same]
  exact ret_at (DL.Sub.new np) h
theorem sum_pairs {tg : Tg} {g : AH → Prop} {e : WE} {c : CallT} {G : Gm} {δ : DSt} {A : AH} {Q : QE} {l : PL} (f : Int × Int → Int) (hg : g A) (he : ∀ x, ∀ R : QE, R (.int (f x)) A → gAsg tg (prD x) δ A fun δ' => e δ' A R fun _ _ => False) (h : ∀ p, A p = none → Q (.int ((l.map f).sum)) (up A p (.lst ((l.map f).map .int)))) : dComp tg g (wpT c G .yes) e δ (prs l) [] A (fun d A1 => dBi .sum [d] A1 Q) := by
  refine comp_map (f := fun d => match pr1 d with | some p => .int (f p) | _ => .non) hg (fun x hx R hr => ?_) ?_
  · obtain ⟨p, _, rfl⟩ := List.mem_map.mp hx
    exact he p R hr
  · intro p np
    have e : ((prs l).map (fun d => match pr1 d with | some p => D.int (f p) | _ => .non)) = (l.map f).map D.int := by
      rw [prs, List.map_map, List.map_map]; rfl
    rw [e, List.nil_append, x_sum up_same]
    exact h p np
theorem cost_of_ok {G : Gm} (hG : G.fn 18 = some ⟨2, 4, IR.cost_of⟩) (n : Nat) {l : PL} {cost : Int} (hz : l.length < 100000) {A : AH} {Q : QE} {E : XQ} (h : Q (.int (costL l cost)) A) : callN G (n + 1) 18 [spd l, .int cost] A Q E := by
  refine callN_mk hG rfl ?_
  unfold IR.cost_of
  walk_at "wp"
  refine ⟨by rw [List.length_map]; exact Nat.le_trans (Nat.le_of_lt hz) (by decide), ?_⟩
  refine sum_pairs (fun p => cost + p.2 - p.1) True.intro (fun x R hr => ?_) fun p np => ?_
  · rw [prD_eq]
    walk_at "wp"
    exact hr
  · exact ret_at (DL.Sub.new np) h
theorem waste_ok {G : Gm} (hG17 : G.fn 17 = some ⟨2, 5, IR.asks⟩) (hG : G.fn 19 = some ⟨2, 5, IR.waste⟩) (n : Nat) {l : PL} {cost : Int} (hl : okF 0 l) {A : AH} {Q : QE} {E : XQ} (h : Q (.int (sizeOf' (asksL l cost) - sizeOf' l)) A) : callN G (n + 2) 19 [spd l, .int cost] A Q E := by
  have h1 := okF_len' (asks_okF hl cost)
  have h2 := okF_len' hl
  refine callN_mk hG rfl ?_
  unfold IR.waste
  walk_at "wp"
  refine asks_ok hG17 n hl ?_
  walk_at "wp"
  refine ⟨by rw [List.length_map]; exact Nat.le_trans (by omega : _ ≤ 100000) (by decide), ?_⟩
  refine sum_pairs (fun p => p.2 - p.1) True.intro (fun x R hr => ?_) fun p np => ?_
  · rw [prD_eq]
    walk_at "wp"
    exact hr
  · walk_at "wp"
    refine ⟨by rw [List.length_map]; exact Nat.le_trans (by omega : _ ≤ 100000) (by decide), ?_⟩
    refine sum_pairs (fun p => p.2 - p.1) True.intro (fun x R hr => ?_) fun q nq => ?_
    · rw [prD_eq]
      walk_at "wp"
      exact hr
    · walk_at "wp"
      exact ret_at (sub_up2 np nq) h
end DP

set_option Elab.async false
set_option linter.all false
set_option maxRecDepth 100000
namespace DP
open DL PySem
open L2 hiding prD
local macro_rules | `(tactic| walk_at "wp") => `(tactic| try simp only [startD, List.map_cons, List.map_nil, List.length_cons, List.length_nil, Nat.zero_add, Nat.reduceAdd, Nat.reduceSub, List.replicate_succ, List.replicate_zero, List.cons_append, List.nil_append, List.set_cons_zero, List.set_cons_succ, setAll, wipeD,
  wq_var0, wq_var1, wq_var2, wq_var3, wq_var4, wq_var5, wq_var6, wq_var7, wq_var8, wq_var9, wq_var10, wq_var11, wq_var12, wq_var13, wq_var14, wq_var15, wq_cst, wq_tup, wq_lst, wq_bin, wq_neg, wq_cmp, wq_chn, wq_isn, wq_isb, wq_notv, wq_andv, wq_orv, wq_ite, wq_call, wq_bi, wq_isi, wq_rgl, wq_ix, wq_cut, wq_rev, wq_comp, wq_bm, wq_nil, wq_cons, wq_on, wq_os, wq_val, wq_and, wq_or, wq_not, wq_yes, wq_snil, wq_scons, wq_set, wq_tset, wq_par, wq_sub, wq_expr, wq_if, wq_for, wq_whil, wq_ret, wq_pass, wq_cont, end_rt, end_nx,
  x_addI, x_addT, x_addS, x_sub, x_mul, x_fdiv, x_mod, x_lt, x_le, x_gt, x_ge, x_eqI, x_neI, x_bTst, x_truB, x_truN, x_truI, x_truT, x_truR, x_lenT, x_lenR, x_tupT, x_lstT, x_min2, x_max2, x_intB, x_intI, x_cutT, x_revT, x_srcT, x_srcR, x_rng1, x_rng2, x_zip, x_rgl1, x_rgl2, g_nm, g_tp, g_cons, g_nil, ty_app, ty_ext, ty_pop, ty_popi, if_true, if_false, Bool.false_eq_true, Bool.true_eq_false, Bool.not_true, Bool.not_false, len2_ok, len0_ok, true_and, isNonD])

theorem law_window2 {G : Gm} (hD : Draws G) (hG : G.fn 108 = some ⟨2, 3, IR.law_window_k18⟩) (n : Nat) (ns : List Int) {t : Addr} {k : Nat} {A : AH} {Q : QE} {E : XQ} (ht : A t = some (tw k)) (hk : k < 90000) (h : ∀ p : Int × Int, okSt p → Q (prD p) (up A t (tw (k + 2)))) : callN G (n + 2) 108 [.rol (ns.map .int), .ref t] A Q E := by
  refine callN_mk hG rfl ?_
  unfold IR.law_window_k18
  walk_at "wp"
  refine hD _ ns ht (by omega) (by decide) fun r0 h00 h01 => ?_
  walk_at "wp"
  refine hD _ ns up_same (by omega) (by omega) fun r1 h10 h11 => ?_
  walk_at "wp"
  rw [up_up]
  exact ret_here (h (r0, r0 + 1 + r1) ⟨h00, by dsimp only; omega, by dsimp only; omega⟩)
/-! pieces, more -/
theorem pcs_ends {m : Int} (hm : 0 < m) : ∀ (n : Nat) (a b : Int), b - a ≤ n → 0 < b - a → ∀ p ∈ pcs m n a b, p.2 - p.1 < m → p.2 = b
  | 0, a, b, h, h2, p, hp, _ => by omega
  | n + 1, a, b, h, h2, p, hp, hlt => by
    unfold pcs at hp
    split at hp
    · rcases List.mem_cons.mp hp with rfl | hp
      · dsimp only at hlt; omega
      · exact pcs_ends hm n (a + m) b (by omega) (by omega) p hp hlt
    · rw [List.mem_singleton.mp hp]
theorem parts_ends {l : PL} {m : Int} (hl : okF 0 l) (hm : 0 < m) {p : Int × Int} (hp : p ∈ partsL l m) (hlt : p.2 - p.1 < m) : p.2 ∈ l.map (·.2) := by
  unfold partsL at hp
  obtain ⟨x, hx, hp⟩ := List.mem_flatMap.mp hp
  have hs := okF_st hl (Int.le_refl _) x hx
  have h1 := hs.1; have h2 := hs.2.1; have h3 := hs.2.2
  rw [pcs_ends hm 100 x.1 x.2 (by omega) (by omega) p hp hlt]
  exact List.mem_map.mpr ⟨x, hx, rfl⟩
theorem pcs_pw {m : Int} (hm : 0 < m) : ∀ (n : Nat) (a b : Int), 0 ≤ a → a < b → b ≤ 100 → (pcs m n a b).Pairwise fun p q => p.2 ≤ q.1
  | 0, a, b, _, _, _ => List.pairwise_singleton _ _
  | n + 1, a, b, h0, h1, h2 => by
    unfold pcs
    split
    · refine List.pairwise_cons.mpr ⟨fun q hq => ?_, pcs_pw hm n (a + m) b (by omega) (by omega) h2⟩
      have := (pcs_ok hm n (a + m) b (by omega) (by omega) h2).1 q hq
      exact this.2.1
    · exact List.pairwise_singleton _ _
theorem parts_pw {m : Int} (hm : 0 < m) : ∀ {l : PL} {lo : Int}, 0 ≤ lo → okF lo l → (partsL l m).Pairwise fun p q => p.2 ≤ q.1
  | [], _, _, _ => List.Pairwise.nil
  | x :: r, lo, h0, ⟨a, b, c, d⟩ => by
    have e9 : partsL (x :: r) m = pcs m 100 x.1 x.2 ++ partsL r m := by unfold partsL; rw [List.flatMap_cons]
    rw [e9, List.pairwise_append]
    refine ⟨pcs_pw hm 100 x.1 x.2 (by omega) b c, parts_pw hm (by omega) d, fun p hp q hq => ?_⟩
    have h1 := ((pcs_ok hm 100 x.1 x.2 (by omega) b c).1 p hp).2.2
    obtain ⟨y, hy, hq⟩ := List.mem_flatMap.mp hq
    have hys := okF_st d (by omega) y hy
    have h2 := ((pcs_ok hm 100 y.1 y.2 hys.1 hys.2.1 hys.2.2).1 q hq).2.1
    have h3 : ∀ {r : PL} {lo : Int}, okF lo r → ∀ q ∈ r, lo ≤ q.1 := by
      intro r
      induction r with
      | nil => intro _ _ q hq; cases hq
      | cons x r ih =>
        intro lo h q hq
        rcases List.mem_cons.mp hq with rfl | hq
        · exact h.1
        · have := ih h.2.2.2 q hq; have := h.1; have := h.2.1; omega
    have := h3 d y hy
    omega
theorem parts_sort {l : PL} {m : Int} (hl : okF 0 l) (hm : 0 < m) : sortP (partsL l m) = partsL l m := by
  have hp := parts_pw hm (Int.le_refl _) hl
  have hk := (parts_mem hl hm).1
  refine (sortP_eq (List.Perm.refl _) ?_).symm
  refine List.Pairwise.imp_of_mem (fun {p q} hp hq h => ?_) hp
  have := (hk p hp).2.1
  rw [leP_iff]; omega
theorem pcs_one : ∀ (n : Nat) (a b : Int), b - a ≤ n → 0 < b - a → pcs 1 n a b = (rgI a b).map fun k => (k, k + 1)
  | 0, a, b, h, h2 => by omega
  | n + 1, a, b, h, h2 => by
    have e : rgI a b = a :: rgI (a + 1) b := by
      unfold rgI
      rw [show (b - a).toNat = (b - (a + 1)).toNat + 1 by omega, List.range_succ_eq_map, List.map_cons, List.map_map]
      congr 1
      · simp
      · refine List.map_congr_left fun x _ => ?_
        show a + ((x + 1 : Nat) : Int) = a + 1 + (x : Int)
        omega
    unfold pcs
    rw [e, List.map_cons]
    split
    · next c => rw [pcs_one n (a + 1) b (by omega) (by omega)]
    · next c =>
      rw [show b = a + 1 by omega]
      unfold rgI
      simp
theorem parts_one {l : PL} (hl : okF 0 l) : partsL l 1 = (keysOf l).map fun k => (k, k + 1) := by
  have hst := okF_st hl (Int.le_refl _)
  clear hl
  induction l with
  | nil => rfl
  | cons x r ih =>
    have hx := hst x List.mem_cons_self
    have h1 := hx.1; have h2 := hx.2.1; have h3 := hx.2.2
    have e9 : partsL (x :: r) 1 = pcs 1 100 x.1 x.2 ++ partsL r 1 := by unfold partsL; rw [List.flatMap_cons]
    rw [e9, ih fun p hp => hst p (List.mem_cons_of_mem _ hp), pcs_one 100 x.1 x.2 (by omega) (by omega), keysOf_cons, List.map_append]
theorem parts_all {l : PL} (hl : okF 0 l) : partsL l 100 = l := by
  have hst := okF_st hl (Int.le_refl _)
  clear hl
  induction l with
  | nil => rfl
  | cons x r ih =>
    have hx := hst x List.mem_cons_self
    have h1 := hx.1; have h2 := hx.2.1; have h3 := hx.2.2
    have e9 : partsL (x :: r) 100 = pcs 100 100 x.1 x.2 ++ partsL r 100 := by unfold partsL; rw [List.flatMap_cons]
    rw [e9, ih fun p hp => hst p (List.mem_cons_of_mem _ hp)]
    show (if 100 < x.2 - x.1 then _ else [(x.1, x.2)]) ++ r = x :: r
    rw [if_neg (by omega)]; rfl
end DP

set_option Elab.async false
set_option linter.all false
set_option maxRecDepth 100000
/-! rows of the later constructs; lists that are values; walking by one tactic -/
namespace DL
open PySem PySem.Spec PyProof.Rows L2
section
variable {c : CallT} {G : Gm} {δ r : DSt} {A : AH} {Q : QE} {E : XQ} {QT : Bool → AH → Prop} {QA : List D → AH → Prop} {P : Pst} {x y d : D} {a b e o : IE} {es : List IE} {s : IS} {ss body bs : List IS} {t u : IT} {tg : Tg}
theorem wq_fz : wpE c G (.fz e) δ A Q E = wpE c G e δ A (fun x A1 => dFz x A1 Q) E := (rfl)
theorem wq_lk : wpE c G (.lk e) δ A Q E = ∃ a kvs, A a = some (.dk kvs) ∧ ∀ u, wpE c G e δ (up A a (.dkl kvs u)) (fun y A2 => A2 a = some (.dkl kvs u) ∧ Q y (up A2 a (.dk kvs))) (fun _ _ => False) := (rfl)
def weak : D → D | .ptp xs => .tup xs | x => x
theorem wq_wk : wpE c G (.wk e) δ A Q E = wpE c G e δ A (fun x A1 => Q (weak x) A1) E := by
  show wpE c G e δ A (fun x A1 => Q (match x with | .ptp xs => .tup xs | x => x) A1) E = _
  congr 1
theorem wq_ptl : wpE c G (.ptl e) δ A Q E = wpE c G e δ A (fun x A1 => match lstD A1 x with | some xs => Q (.ptp xs) A1 | none => False) E := (rfl)
theorem wq_ptd : wpE c G (.ptd es) δ A Q E = wpEs c G es δ A (fun ds A1 => ds.length ≤ sizeLine ∧ Q (.ptp ds) A1) E := (rfl)
theorem wq_step {k : Nat} : wpE c G (.step e k) δ A Q E = wpE c G e δ A (fun x A1 => match x with | .tup xs => 1 < k ∧ Q (.tup (stepL k xs)) A1 | _ => False) E := (rfl)
theorem wq_dic : wpE c G (.dic es) δ A Q E = wpEs c G es δ A (fun ds A1 => match kvs2 ds with | some kvs => kvs.length ≤ 15 ∧ newD A1 (mergeD [] kvs) Q | none => False) (fun _ _ => False) := (rfl)
theorem wq_make {C : Nat} : wpE c G (.make C es) δ A Q E = wpEs c G es δ A (fun ds A1 => match G.cl C with
      | some cd => ∀ x, A1 x = none → c cd.init (.ref x :: ds) (up A1 x (.ins C [])) (fun r A2 => (match r with | .non => True | _ => False) ∧ Q (.ref x) A2) E
      | none => False) E := rfl
theorem wq_meth {m : Nat} : wpE c G (.meth m o es) δ A Q E = wpE c G o δ A (fun x A1 => match x with
      | .ref a => match A1 a with
        | some (.ins C fs) => match G.cl C with
          | some cd => match cd.ms.lookup m with
            | some f => wpEs c G es δ A1 (fun ds A2 => c f (x :: ds) A2 Q E) E
            | none => False
          | none => False
        | _ => False
      | _ => False) E := rfl
theorem wq_fld {C i : Nat} : wpE c G (.fld C i o) δ A Q E = wpE c G o δ A (fun x A1 => match x with
      | .ref a => match A1 a with
        | some (.ins C' fs) => C' = C ∧ (match fs[i]? with | some d => Q d A1 | none => False)
        | _ => False
      | _ => False) E := rfl
theorem wq_put {C k : Nat} : wpS c G (.put C k o e) P δ A = wpE c G e δ A (fun v A1 => wpE c G o δ A1 (fun x A2 => match x with
      | .ref a => match A2 a with
        | some (.ins C' fs) => C' = C ∧ k ≤ fs.length ∧ P.nx δ (up A2 a (.ins C (putF' fs k v)))
        | _ => False
      | _ => False) (fun x A' => P.ex x δ A')) (fun x A' => P.ex x δ A') := rfl
theorem wq_rais {i : Nat} : wpS c G (.rais i) P δ A = P.ex i δ A := (rfl)
theorem wq_tryx {xs : List Nat} : wpS c G (.tryx body xs bs) P δ A = wpSs c G body ⟨P.nx, P.rt, P.ct, fun x δ' A' => x ∈ xs ∧ wpSs c G bs ⟨P.nx, P.rt, P.ct, fun _ _ _ => False⟩ δ' A'⟩ δ A := (rfl)
theorem wq_sub2 {o i o2 i2 e : IE} : wpS c G (.sub2 o i o2 i2 e) P δ A = wpE c G e δ A (fun v A1 => match v with
      | .tup [v1, v2] => wpE c G o δ A1 (fun x A2 => wpE c G i δ A2 (fun k A3 => dSub x k v1 A3 fun A4 =>
          wpE c G o2 δ A4 (fun y A5 => wpE c G i2 δ A5 (fun j A6 => dSub y j v2 A6 fun A7 => P.nx δ A7) (fun x A' => P.ex x δ A')) (fun x A' => P.ex x δ A')) (fun x A' => P.ex x δ A')) (fun x A' => P.ex x δ A')
      | _ => False) (fun x A' => P.ex x δ A') := (rfl)
theorem wq_fstr {es : List IE} : wpE c G (.fstr es) δ A Q E = wpEs c G es δ A (fun ds A1 => (∀ d ∈ ds, fmtOk d) ∧ match alls txt1 ds with | some zs => (zs.foldl (· ++ ·) Str.empty).length ≤ sizeLine ∧ (zs.map (·.length)).sum ≤ sizeLine ∧ Q (.str (zs.foldl (· ++ ·) Str.empty)) A1 | none => False) E := (rfl)
theorem wq_compx {k : SrcK} {es : List IE} {vs : List Nat} {tg : Tg} {t : IT} {e : IE} : wpE c G (.compx k es vs tg t e) δ A Q E = wpEs c G es δ A (fun ds A1 => dSrc k ds A1 fun xs g => xs.length ≤ sizeLine ∧ dCompX tg g (wpT c G t) (wpE c G e) (wipeD δ vs) xs [] A1 Q E) E := (rfl)
theorem wq_lks : wpS c G (.lks s) P δ A = ∃ a kvs, A a = some (.dk kvs) ∧ ∀ u, wpS c G s ⟨fun δ' A' => A' a = some (.dkl kvs u) ∧ P.nx δ' (up A' a (.dk kvs)), fun v A' => A' a = some (.dkl kvs u) ∧ P.rt v (up A' a (.dk kvs)), fun δ' A' => A' a = some (.dkl kvs u) ∧ P.ct δ' (up A' a (.dk kvs)), fun _ _ _ => False⟩ δ (up A a (.dkl kvs u)) := (rfl)
theorem wq_ch3 {k l m : CO} {z w : IE} : wpE c G (.ch3 k l m a b z w) δ A Q E = wpE c G a δ A (fun x A1 => wpE c G b δ A1 (fun y A2 => dCmp k x y A2 (bTst fun i A3 =>
      if i = true then wpE c G z δ A3 (fun z A4 => dCmp l y z A4 (bTst fun j A5 => if j = true then wpE c G w δ A5 (fun u A6 => dCmp m z u A6 Q) E else Q (.bl false) A5)) E else Q (.bl false) A3)) E) E := rfl
/-- what comes behind, not looked at yet -/
def later (c : CallT) (G : Gm) (ss : List IS) (P : Pst) (δ : DSt) (A : AH) : Prop := wpSs c G ss P δ A
theorem later_go (h : wpSs c G ss P δ A) : later c G ss P δ A := h
theorem wq_sl : wpSs c G (s :: ss) P δ A = wpS c G s ⟨fun δ' A' => later c G ss P δ' A', P.rt, P.ct, P.ex⟩ δ A := (rfl)
theorem wq_il : wpS c G (.iff t body bs) P δ A = wpT c G t δ A (fun k A1 => if k = true then later c G body P δ A1 else later c G bs P δ A1) (fun x A' => P.ex x δ A') := (rfl)
/-- a place by counting -/
theorem wq_varS {i : Nat} {x0 : Option D} : wpE c G (.var (i + 1)) (x0 :: r) A Q E = wpE c G (.var i) r A Q E := by
  show (match (x0 :: r)[i + 1]? with | some (some d) => Q d A | _ => False) = (match r[i]? with | some (some d) => Q d A | _ => False)
  rw [List.getElem?_cons_succ]
/-! ### lists that are values -/
variable {xs ys : List D} {i j : Int} {p : Addr} {δG : DSt} {QG : DSt → Prop} {Qs : List D → (AH → Prop) → Prop} {R : QE}
theorem fz_new (np : A p = none) : dFz (.ref p) (up A p (.lst xs)) Q = Q (.fl xs) A := by
  simp only [dFz, up_same]; rw [del_up np]
theorem fz_newD {kvs : List (Key × D)} (np : A p = none) : dFz (.ref p) (up A p (.dk kvs)) Q = Q (.rod (kvs.map (·.1)) (kvs.map (·.2))) A := by
  simp only [dFz, up_same]; rw [del_up np]
theorem newL_fz (h : Q (.fl xs) A) : newL A xs fun x A1 => dFz x A1 Q := fun p np => by
  show dFz (.ref p) (up A p (.lst xs)) Q
  rw [fz_new np]; exact h
theorem newD_fz {kvs : List (Key × D)} (h : Q (.rod (kvs.map (·.1)) (kvs.map (·.2))) A) : newD A kvs fun x A1 => dFz x A1 Q := fun p np => by
  show dFz (.ref p) (up A p (.dk kvs)) Q
  rw [fz_newD np]; exact h
theorem fz_fl : dFz (.fl xs) A Q = Q (.fl xs) A := (rfl)
theorem fz_lst (h : A p = some (.lst xs)) : dFz (.ref p) A Q = Q (.fl xs) (del A p) := by simp only [dFz, h]
theorem seq_fl : seqD A (.fl xs) = some xs := (rfl)
theorem x_srcF : dSrc .seq [.fl xs] A Qs = Qs xs (fun _ => True) := (rfl)
theorem x_zipF : dSrc .zip [.fl xs, .fl ys] A Qs = Qs (List.zipWith (fun x y => .tup [x, y]) xs ys) (fun _ => True) := (rfl)
theorem x_enumF : dSrc .enum [.fl xs] A Qs = Qs (enumD 0 xs) (fun _ => True) := (rfl)
theorem x_enumT : dSrc .enum [.tup xs] A Qs = Qs (enumD 0 xs) (fun _ => True) := (rfl)
theorem x_enumL (h : A p = some (.lst xs)) : dSrc .enum [.ref p] A Qs = Qs (enumD 0 xs) (fun A' => A' p = some (.lst xs)) := by simp only [dSrc, h]
theorem x_ezip : dSrc .ezip [.tup xs, .tup ys] A Qs = Qs (enumD 0 (List.zipWith (fun x y => .tup [x, y]) xs ys)) (fun _ => True) := (rfl)
theorem x_rng3 {k : Int} : dSrc .rng3 [.int i, .int j, .int k] A Qs = ∃ n, RgC i j k n ∧ Qs ((List.range n).map fun m => .int (i + (m : Nat) * k)) (fun _ => True) := (rfl)
theorem x_lenF : dBi .len [.fl xs] A Q = Q (.int xs.length) A := (rfl)
theorem x_tupF : dBi .tuple [.fl xs] A Q = Q (.tup xs) A := (rfl)
theorem x_lstF : dBi .list [.fl xs] A Q = newL A xs Q := (rfl)
theorem x_mulT : dBin .mul (.tup xs) (.int i) A Q = (2 ≤ i ∧ i ≤ 1000 ∧ xs.length ≤ 1000 ∧ Q (.tup (List.replicate i.toNat xs).flatten) A) := (rfl)
theorem x_sumF {ns : List Int} : dBi .sum [.fl (ns.map .int)] A Q = Q (.int ns.sum) A := by simp only [dBi, lstD, alls_ints]
theorem x_allF {ns : List Bool} : dBi .all [.fl (ns.map .bl)] A Q = Q (.bl (ns.all id)) A := by simp only [dBi, lstD, alls_bls]
theorem x_anyF {ns : List Bool} : dBi .any [.fl (ns.map .bl)] A Q = Q (.bl (ns.any id)) A := by simp only [dBi, lstD, alls_bls]
theorem x_ixF (h : L2.atI xs i = some d) : dIx (.fl xs) (.int i) A Q = Q d A := by simp only [dIx, seq_fl, h]
theorem x_cutF {lo hi : Option Int} : dCut (.fl xs) lo hi A Q = newL A (cutL xs lo hi) Q := (rfl)
theorem x_revF : dRev (.fl xs) A Q = newL A xs.reverse Q := (rfl)
theorem x_addF : dBin .add (.fl xs) (.fl ys) A Q = (xs.length + ys.length ≤ sizeLine ∧ newL A (xs ++ ys) Q) := (rfl)
theorem x_addFL (h : A p = some (.lst ys)) : dBin .add (.fl xs) (.ref p) A Q = (xs.length + ys.length ≤ sizeLine ∧ newL A (xs ++ ys) Q) := by simp only [dBin, flD, h]
theorem x_addLF (h : A p = some (.lst xs)) : dBin .add (.ref p) (.fl ys) A Q = (xs.length + ys.length ≤ sizeLine ∧ newL A (xs ++ ys) Q) := by simp only [dBin, h]
theorem x_mulF : dBin .mul (.fl xs) (.int i) A Q = ((-(2 ^ 63) ≤ i ∧ i < 2 ^ 63) ∧ xs.length * i.toNat ≤ sizeLine ∧ newL A (List.replicate i.toNat xs).flatten Q) := (rfl)
theorem x_truF : dTru (.fl xs) A QT = QT (!xs.isEmpty) A := (rfl)
theorem x_extF (h : A p = some (.lst xs)) : dBm .extend (.ref p) [.fl ys] A Q = (xs.length + ys.length ≤ sizeLine ∧ Q .non (up A p (.lst (xs ++ ys)))) := by simp only [dBm, h]
theorem weak_ptp : weak (.ptp xs) = .tup xs := (rfl)
theorem weak_tup : weak (.tup xs) = .tup xs := (rfl)
theorem weak_non : weak .non = .non := (rfl)
theorem weak_int : weak (.int i) = .int i := (rfl)
theorem x_ptlF : (match lstD A (.fl xs) with | some xs => Q (.ptp xs) A | none => False) = Q (.ptp xs) A := (rfl)
theorem g_tpF {ts : List Tg} : gAsg (.tp ts) (.fl xs) δ A QG = gAsgs ts xs δ A QG := by unfold gAsg; rfl
theorem newL_mono {Q Q' : QE} (h : newL A xs Q) (k : ∀ p, A p = none → Q (.ref p) (up A p (.lst xs)) → Q' (.ref p) (up A p (.lst xs))) : newL A xs Q' := fun p np => k p np (h p np)
theorem size_ok {n : Nat} (h : n ≤ 100000) : n ≤ sizeLine := Nat.le_trans h (by decide)
theorem size_lt {n : Nat} (h : n < 100000) : n < sizeLine := Nat.lt_of_lt_of_le h (by decide)
/-- comprehensions over a list of things of one kind -/
theorem comp_of {α : Type} {tg : Tg} {g : AH → Prop} {e : WE} {δ : DSt} (m : α → D) (f : α → D) {xs : List α} (hg : g A) (he : ∀ a ∈ xs, ∀ R : QE, R (f a) A → gAsg tg (m a) δ A fun δ' => e δ' A R fun _ _ => False) (h : newL A (xs.map f) Q) : dComp tg g (wpT c G .yes) e δ (xs.map m) [] A Q := by
  suffices ∀ (l : List α) (acc : List D), (∀ a ∈ l, a ∈ xs) → newL A (acc ++ l.map f) Q → dComp tg g (wpT c G .yes) e δ (l.map m) acc A Q from this xs [] (fun _ h => h) (by rw [List.nil_append]; exact h)
  intro l
  induction l with
  | nil => intro acc _ h; rw [List.map_nil, List.append_nil] at h; exact ⟨hg, h⟩
  | cons a l ih =>
    intro acc hl h
    refine ⟨hg, ?_⟩
    have h1 := he a (hl a List.mem_cons_self) (fun y A2 => dComp tg g (wpT c G .yes) e δ (l.map m) (acc ++ [y]) A2 Q) (ih _ (fun b hb => hl b (List.mem_cons_of_mem _ hb)) (by rw [List.append_assoc]; exact h))
    refine gAsg_mono _ _ _ _ _ _ (fun δ' q => ?_) h1
    rw [wq_yes, if_pos rfl]; exact q
theorem comp_if {α : Type} {tg : Tg} {g : AH → Prop} {t : WT} {e : WE} {δ : DSt} (m : α → D) (b : α → Bool) (f : α → D) {xs : List α} (hg : g A) (he : ∀ a ∈ xs, ∀ (R1 : QE) (R2 : AH → Prop), (b a = true → R1 (f a) A) → (b a = false → R2 A) → gAsg tg (m a) δ A fun δ' => t δ' A (fun b A1 => if b = true then e δ' A1 R1 (fun _ _ => False) else R2 A1) fun _ _ => False) (h : newL A ((xs.filter b).map f) Q) : dComp tg g t e δ (xs.map m) [] A Q := by
  suffices ∀ (l : List α) (acc : List D), (∀ a ∈ l, a ∈ xs) → newL A (acc ++ (l.filter b).map f) Q → dComp tg g t e δ (l.map m) acc A Q from this xs [] (fun _ h => h) (by rw [List.nil_append]; exact h)
  intro l
  induction l with
  | nil => intro acc _ h; rw [List.filter_nil, List.map_nil, List.append_nil] at h; exact ⟨hg, h⟩
  | cons a l ih =>
    intro acc hl h
    refine ⟨hg, ?_⟩
    refine he a (hl a List.mem_cons_self) (fun y A2 => dComp tg g t e δ (l.map m) (acc ++ [y]) A2 Q) (fun A1 => dComp tg g t e δ (l.map m) acc A1 Q) (fun hb => ?_) (fun hb => ?_)
    · rw [List.filter_cons_of_pos hb, List.map_cons] at h
      exact ih _ (fun b hb => hl b (List.mem_cons_of_mem _ hb)) (by rw [List.append_assoc]; exact h)
    · rw [List.filter_cons_of_neg (by rw [hb]; decide)] at h
      exact ih _ (fun b hb => hl b (List.mem_cons_of_mem _ hb)) h
/-! objects, by continuation -/
/-- the def behind a method's name -/
def dMeth (G : Gm) (m : Nat) (x : D) (A : AH) (K : Nat → Prop) : Prop := match x with
  | .ref a => match A a with
    | some (.ins C _) => match G.cl C with
      | some cd => match cd.ms.lookup m with | some f => K f | none => False
      | none => False
    | _ => False
  | _ => False
def dFld (C i : Nat) (x : D) (A : AH) (K : D → Prop) : Prop := match x with
  | .ref a => match A a with
    | some (.ins C' fs) => C' = C ∧ (match fs[i]? with | some d => K d | none => False)
    | _ => False
  | _ => False
def dPut (C k : Nat) (v x : D) (A : AH) (K : AH → Prop) : Prop := match x with
  | .ref a => match A a with
    | some (.ins C' fs) => C' = C ∧ k ≤ fs.length ∧ K (up A a (.ins C (putF' fs k v)))
    | _ => False
  | _ => False
def dMake (G : Gm) (c : CallT) (C : Nat) (ds : List D) (A : AH) (Q : QE) (E : XQ) : Prop := match G.cl C with
  | some cd => ∀ x, A x = none → c cd.init (.ref x :: ds) (up A x (.ins C [])) (fun r A2 => (match r with | .non => True | _ => False) ∧ Q (.ref x) A2) E
  | none => False
theorem wq_methK {m : Nat} : wpE c G (.meth m o es) δ A Q E = wpE c G o δ A (fun x A1 => dMeth G m x A1 fun f => wpEs c G es δ A1 (fun ds A2 => c f (x :: ds) A2 Q E) E) E := (rfl)
theorem wq_fldK {C i : Nat} : wpE c G (.fld C i o) δ A Q E = wpE c G o δ A (fun x A1 => dFld C i x A1 fun d => Q d A1) E := (rfl)
theorem wq_putK {C k : Nat} : wpS c G (.put C k o e) P δ A = wpE c G e δ A (fun v A1 => wpE c G o δ A1 (fun x A2 => dPut C k v x A2 fun A3 => P.nx δ A3) (fun x A' => P.ex x δ A')) (fun x A' => P.ex x δ A') := (rfl)
theorem wq_makeK {C : Nat} : wpE c G (.make C es) δ A Q E = wpEs c G es δ A (fun ds A1 => dMake G c C ds A1 Q E) E := (rfl)
def Mt (G : Gm) (C m f : Nat) : Prop := ∃ cd, G.cl C = some cd ∧ cd.ms.lookup m = some f
theorem x_meth {C m f : Nat} {a : Addr} {fs : List D} {K : Nat → Prop} (hm : Mt G C m f) (ha : A a = some (.ins C fs)) : dMeth G m (.ref a) A K = K f := by
  obtain ⟨cd, h1, h2⟩ := hm
  simp only [dMeth, ha, h1, h2]
theorem x_fld {C i : Nat} {a : Addr} {fs : List D} {K : D → Prop} (ha : A a = some (.ins C fs)) (hi : fs[i]? = some d) : dFld C i (.ref a) A K = K d := by
  simp only [dFld, ha, hi, true_and]
theorem x_put {C k : Nat} {a : Addr} {fs : List D} {K : AH → Prop} (ha : A a = some (.ins C fs)) (hk : k ≤ fs.length) : dPut C k x (.ref a) A K = K (up A a (.ins C (putF' fs k x))) := by
  simp only [dPut, ha, hk, true_and]
theorem x_make {C : Nat} {cd : ClD} {ds : List D} (h : G.cl C = some cd) : dMake G c C ds A Q E = ∀ x, A x = none → c cd.init (.ref x :: ds) (up A x (.ins C [])) (fun r A2 => (match r with | .non => True | _ => False) ∧ Q (.ref x) A2) E := by
  simp only [dMake, h]
end
end DL
local macro_rules | `(tactic| walk_at "wpx") => `(tactic| try simp only [DL.startD, List.map_cons, List.map_nil, List.length_cons, List.length_nil, Nat.zero_add, Nat.reduceAdd, Nat.reduceSub, List.replicate_succ, List.replicate_zero, List.cons_append, List.nil_append, List.set_cons_zero, List.set_cons_succ, DL.setAll, DL.wipeD,
  DL.wq_var0, DL.wq_var1, DL.wq_var2, DL.wq_var3, DL.wq_var4, DL.wq_var5, DL.wq_var6, DL.wq_var7, DL.wq_var8, DL.wq_var9, DL.wq_var10, DL.wq_var11, DL.wq_var12, DL.wq_var13, DL.wq_var14, DL.wq_var15, DL.wq_var16, DL.wq_var17, DL.wq_var18, DL.wq_var19, DL.wq_var20, DL.wq_var21, DL.wq_var22, DL.wq_var23, DL.wq_cst, DL.wq_tup, DL.wq_lst, DL.wq_bin, DL.wq_neg, DL.wq_cmp, DL.wq_chn, DL.wq_ch3, DL.wq_isn, DL.wq_isb, DL.wq_notv, DL.wq_andv, DL.wq_orv, DL.wq_ite, DL.wq_call, DL.wq_bi, DL.wq_isi, DL.wq_rgl, DL.wq_ix, DL.wq_cut, DL.wq_rev, DL.wq_comp, DL.wq_bm, DL.wq_nil, DL.wq_cons, DL.wq_on, DL.wq_os, DL.wq_val, DL.wq_and, DL.wq_or, DL.wq_not, DL.wq_yes, DL.wq_snil, DL.wq_sl, DL.wq_set, DL.wq_tset, DL.wq_par, DL.wq_sub, DL.wq_expr, DL.wq_il, DL.wq_for, DL.wq_whil, DL.wq_ret, DL.wq_pass, DL.wq_cont, DL.end_rt, DL.end_nx, DL.end_ex,
  DL.wq_sub2, DL.wq_fstr, DL.wq_compx, DL.wq_fz, DL.wq_wk, DL.wq_ptl, DL.wq_ptd, DL.wq_step, DL.wq_putK, DL.wq_methK, DL.wq_fldK, DL.wq_makeK, DL.wq_rais, DL.wq_tryx, DL.weak_ptp, DL.weak_tup, DL.weak_non, DL.weak_int,
  DL.x_addI, DL.x_addT, DL.x_addS, DL.x_sub, DL.x_mul, DL.x_fdiv, DL.x_mod, DL.x_lt, DL.x_le, DL.x_gt, DL.x_ge, DL.x_eqI, DL.x_neI, DP.x_eqB, DP.x_neB, DL.x_bTst, DL.x_truB, DL.x_truN, DL.x_truI, DL.x_truT, DL.x_truR, DL.x_truF, DL.x_lenT, DL.x_lenR, DL.x_lenF, DL.x_tupT, DL.x_tupF, DL.x_lstT, DL.x_lstF, DL.x_min2, DL.x_max2, DL.x_intB, DL.x_intI, DL.x_cutT, DL.x_cutF, DL.x_revT, DL.x_revF, DL.x_srcT, DL.x_srcR, DL.x_srcF, DL.x_enumF, DL.x_enumT, DL.x_rng1, DL.x_rng2, DL.x_rng3, DL.x_zip, DL.x_zipF, DL.x_ezip, DL.x_rgl1, DL.x_rgl2, DL.x_addF, DL.x_mulF, DL.x_sumF, DL.x_allF, DL.x_anyF, DL.x_ptlF, DL.g_nm, DL.g_tp, DL.g_tpF, DL.g_cons, DL.g_nil, DL.ty_app, DL.ty_ext, DL.ty_pop, DL.ty_popi, DL.fz_fl, if_true, if_false, Bool.false_eq_true, Bool.true_eq_false, Bool.not_true, Bool.not_false, DL.len2_ok, DL.len0_ok, true_and, DL.isNonD, decide_true, decide_false, reduceCtorEq])
/-- a spread is one -/
local macro_rules | `(tactic| walk_at "okf") => `(tactic| first | with_reducible assumption | with_reducible exact DP.jn_ok _ _ | with_reducible exact DP.mt_ok _ _ | with_reducible exact DP.tn_ok _ _ _ | with_reducible exact DP.wo_ok _ _ | with_reducible exact DP.form_ok _ | ((with_reducible refine DP.asks_okF ?h _); (case h => walk_at "okf")) | exact True.intro | (fail "okf"))
namespace DP
open DL PySem
open L2 hiding prD
theorem okF_one {a b : Int} (h0 : 0 ≤ a) (h1 : a < b) (h2 : b ≤ 100) : okF 0 [(a, b)] := ⟨h0, h1, h2, True.intro⟩
theorem okF_pr {p : Int × Int} (h : okSt p) : okF 0 [p] := ⟨h.1, h.2.1, h.2.2, True.intro⟩
theorem spd_one (p : Int × Int) : D.tup [prD p] = spd [p] := rfl
theorem spd_two (a b : Int) : D.tup [.tup [.int a, .int b]] = spd [(a, b)] := rfl
theorem spd_nil : D.tup [] = spd [] := rfl
theorem ext_ok {l m : PL} (hl : okF 0 l) (hm : okF 0 m) (h : ∀ k, 0 ≤ k → k < 100 → hasD l k = hasD m k) : l = m := okF_uniq hl hm fun k => by
  by_cases a : 0 ≤ k ∧ k < 100
  · exact h k a.1 a.2
  · have e1 : hasD l k = false := by
      cases e : hasD l k with
      | false => rfl
      | true => exact absurd (okF_rg hl e) a
    have e2 : hasD m k = false := by
      cases e : hasD m k with
      | false => rfl
      | true => exact absurd (okF_rg hm e) a
    rw [e1, e2]
/-- what is in all of a spread made by a test -/
theorem has_form {f : Int → Bool} {k : Int} (h0 : 0 ≤ k) (h1 : k < 100) : hasD (formOf f) k = f k := by rw [form_has, decide_eq_true h0, decide_eq_true h1]; rfl
theorem has_jn {l m : PL} {k : Int} (h0 : 0 ≤ k) (h1 : k < 100) : hasD (jn l m) k = (hasD l k || hasD m k) := has_form h0 h1
theorem has_mt {l m : PL} {k : Int} (h0 : 0 ≤ k) (h1 : k < 100) : hasD (mt l m) k = (hasD l k && hasD m k) := has_form h0 h1
theorem has_wo {l m : PL} {k : Int} (h0 : 0 ≤ k) (h1 : k < 100) : hasD (wo l m) k = (hasD l k && !hasD m k) := has_form h0 h1
theorem has_tn {l : PL} {a b k : Int} (h0 : 0 ≤ k) (h1 : k < 100) : hasD (tn l a b) k = (decide (a ≤ k) && decide (k < b) && !hasD l k) := has_form h0 h1
theorem has_one {a b k : Int} : hasD [(a, b)] k = (decide (a ≤ k) && decide (k < b)) := by rw [hasD_cons, hasD_nil, Bool.or_false]
theorem has_pr {p : Int × Int} {k : Int} : hasD [p] k = (decide (p.1 ≤ k) && decide (k < p.2)) := by rw [hasD_cons, hasD_nil, Bool.or_false]
theorem itr_spd6 {l : PL} : itr 6 (spd l) := itr_spd
theorem itr_nil6 : itr 6 (.tup []) := by show itrs 5 []; unfold itrs; trivial
theorem eqF_any {ds es : List D} {A : AH} {Q : QE} (hd : itrs 5 ds) (he : itrs 5 es) (h : ∀ v, (v = true ↔ ds = es) → Q (.bl v) A) : dCmp .eq (.fl ds) (.fl es) A Q := by
  obtain ⟨ps, qs, h3, h4, h5⟩ := eqps (A := A) (eqp 5) ds es hd he
  have e1 : pd A 6 (.fl ds) = some (.list ps) := by simp only [pd, h3]; rfl
  have e2 : pd A 6 (.fl es) = some (.list qs) := by simp only [pd, h4]; rfl
  simp only [dCmp, e1, e2]
  exact h _ (by simp only [PyData.eqv]; exact h5)
theorem neF_any {ds es : List D} {A : AH} {Q : QE} (hd : itrs 5 ds) (he : itrs 5 es) (h : ∀ v, (v = false ↔ ds = es) → Q (.bl v) A) : dCmp .ne (.fl ds) (.fl es) A Q := by
  obtain ⟨ps, qs, h3, h4, h5⟩ := eqps (A := A) (eqp 5) ds es hd he
  have e1 : pd A 6 (.fl ds) = some (.list ps) := by simp only [pd, h3]; rfl
  have e2 : pd A 6 (.fl es) = some (.list qs) := by simp only [pd, h4]; rfl
  simp only [dCmp, e1, e2]
  exact h _ (by simp only [PyData.eqv]; rw [← h5]; cases PyData.eqvAll ps qs <;> simp)
theorem neF_no {ds es : List D} {A : AH} {Q : QE} (he : ds = es) (hd : itrs 5 ds) (h : Q (.bl false) A) : dCmp .ne (.fl ds) (.fl es) A Q := by
  subst he
  exact neF_any hd hd fun v hv => by rw [hv.mpr rfl]; exact h
theorem x_innF {ks : List Int} {k : Int} {A : AH} {Q : QE} : dCmp .inn (.int k) (.fl (ks.map .int)) A Q = Q (.bl (decide (k ∈ ks))) A := by
  simp only [dCmp, seq_fl, flat_ints, inV_ints, flatD, true_and]
theorem x_ninF {ks : List Int} {k : Int} {A : AH} {Q : QE} : dCmp .nin (.int k) (.fl (ks.map .int)) A Q = Q (.bl (!decide (k ∈ ks))) A := by
  simp only [dCmp, seq_fl, flat_ints, inV_ints, flatD, true_and]
theorem x_ninT {ks : List Int} {k : Int} {A : AH} {Q : QE} : dCmp .nin (.int k) (.tup (ks.map .int)) A Q = Q (.bl (!decide (k ∈ ks))) A := by
  simp only [dCmp, seq_tup, flat_ints, inV_ints, flatD, true_and]
theorem fl_bls_nin {f : Int → Bool} {A : AH} {Q : QE} (k : ∀ v, (v = true ↔ ∀ k, 0 ≤ k → k < 100 → f k = false) → Q (.bl v) A) : dCmp .nin (.bl true) (.fl (bls f)) A Q := by
  simp only [dCmp, seq_fl, flat_bls, flatD, true_and]
  refine k _ ?_
  cases e : inV (flV (.bl true)) ((bls f).map flV) with
  | true =>
    obtain ⟨j, h0, h1, hj⟩ := (inV_bls f).mp e
    constructor
    · intro z; cases z
    · intro z; rw [z j h0 h1] at hj; cases hj
  | false =>
    constructor
    · intro _ j h0 h1
      cases hj : f j with
      | false => rfl
      | true => rw [(inV_bls f).mpr ⟨j, h0, h1, hj⟩] at e; cases e
    · intro _; rfl
/-- the draws' list, picked from a list that is a value -/
theorem pick_fl {G : Gm} (hD : Draws G) (hG : G.fn 103 = some ⟨3, 3, IR.law_pick⟩) (n : Nat) (ns : List Int) {t : Addr} {k : Nat} {xs : List D} {A : AH} {Q : QE} {E : XQ} (ht : A t = some (tw k)) (hk : k < 100000) (hne : xs ≠ []) (h : ∀ x ∈ xs, Q x (up A t (tw (k + 1)))) : callN G (n + 2) 103 [.rol (ns.map .int), .ref t, .fl xs] A Q E := by
  refine callN_mk hG rfl ?_
  unfold IR.law_pick
  walk_at "wpx"
  have hp : 0 < xs.length := List.length_pos_iff.mpr hne
  refine hD n ns ht hk (by omega) fun r h0 h1 => ?_
  obtain ⟨x, hx, ex⟩ := atI_in xs h0 h1
  rw [x_ixF ex]
  exact ret_here (h x hx)
theorem law_keys1F {G : Gm} (hG : G.fn 105 = some ⟨1, 5, IR.law_keys_k01⟩) (n : Nat) (xs : PL) (hx : ∀ p ∈ xs, okSt p) (hz : xs.length < 100000) {A : AH} {Q : QE} {E : XQ} (h : Q (.fl (bls (hasD xs))) A) : callN G (n + 1) 105 [spd xs] A (fun x A1 => dFz x A1 Q) E :=
  law_keys1 hG n xs hx hz fun p np => by rw [fz_new np]; exact h
theorem law_keys2F {G : Gm} (hG : G.fn 105 = some ⟨1, 4, IR.law_keys_k18⟩) (n : Nat) (l : PL) (hl : ∀ p ∈ l, okSt p) (hz : l.length < 100000) {A : AH} {Q : QE} {E : XQ} (h : Q (.fl ((keysOf l).map .int)) A) : callN G (n + 1) 105 [spd l] A (fun x A1 => dFz x A1 Q) E :=
  law_keys2 hG n l hl hz fun p np => by rw [fz_new np]; exact h
end DP
namespace DP
theorem okl {l : PL} (hl : okF 0 l) : l.length < 100000 := by have := okF_len' hl; omega
theorem okp {l : PL} (hl : okF 0 l) : ∀ p ∈ l, okSt p := okF_st hl (Int.le_refl _)
end DP
/-- a length that is small -/
local macro_rules | `(tactic| walk_at "wsz") => `(tactic| (refine DL.size_ok ?_; (try simp only [List.length_map, List.length_append, List.length_reverse, List.length_cons, List.length_nil, DP.rgD_len]); omega))
/-- one call of a def of spreads -/
local macro_rules | `(tactic| walk_at "wgo1") => `(tactic| first
  | with_reducible refine DL.later_go ?_
  | with_reducible refine DL.newL_fz ?_
  | with_reducible refine DL.newD_fz ?_
  | ((with_reducible refine And.intro (DL.size_ok ?h1) ?hh); (case h1 => ((try simp only [List.length_map, List.length_append, List.length_reverse, List.length_cons, List.length_nil, DP.rgD_len]); omega)))
  | ((with_reducible refine DP.joined_ok ?h1 ?h2 _ ?h4 ?h5 ?hh); (case h1 => exact rfl); (case h2 => exact rfl); (case h4 => walk_at "okf"); (case h5 => walk_at "okf"))
  | ((with_reducible refine DP.met_ok ?h1 ?h2 _ ?h4 ?h5 ?hh); (case h1 => exact rfl); (case h2 => exact rfl); (case h4 => walk_at "okf"); (case h5 => walk_at "okf"))
  | ((with_reducible refine DP.without_ok ?h1 ?h2 _ ?h4 ?h5 ?hh); (case h1 => exact rfl); (case h2 => exact rfl); (case h4 => walk_at "okf"); (case h5 => walk_at "okf"))
  | ((with_reducible refine DP.is_within_ok ?h1 ?h2 ?h3 _ ?h5 ?h6 ?hh); (case h1 => exact rfl); (case h2 => exact rfl); (case h3 => exact rfl); (case h5 => walk_at "okf"); (case h6 => walk_at "okf"))
  | ((with_reducible refine DP.turned_out_ok ?h1 _ ?h3 ?h4 ?h5 ?hh); (case h1 => exact rfl); (case h3 => walk_at "okf"); (case h4 => omega); (case h5 => omega))
  | ((with_reducible refine DP.lacking_ok ?h1 ?h2 _ ?h4 ?h5 ?h6 ?hh); (case h1 => exact rfl); (case h2 => exact rfl); (case h4 => walk_at "okf"); (case h5 => omega); (case h6 => omega))
  | ((with_reducible refine DP.size_tup ?h1 _ _ ?h4 ?hh); (case h1 => exact rfl); (case h4 => exact DP.okl (by walk_at "okf")))
  | ((with_reducible refine DP.keys_of_tup ?h1 _ _ ?h4 ?h5 ?hh); (case h1 => exact rfl); (case h4 => exact DP.okp (by walk_at "okf")); (case h5 => exact DP.okl (by walk_at "okf")))
  | ((with_reducible refine DP.law_keys2F ?h1 _ _ ?h4 ?h5 ?hh); (case h1 => exact rfl); (case h4 => exact DP.okp (by walk_at "okf")); (case h5 => exact DP.okl (by walk_at "okf")))
  | ((with_reducible refine DP.law_keys1F ?h1 _ _ ?h4 ?h5 ?hh); (case h1 => exact rfl); (case h4 => exact DP.okp (by walk_at "okf")); (case h5 => exact DP.okl (by walk_at "okf")))
  | ((with_reducible refine DP.is_spread_spd ?h1 ?h2 ?h3 _ ?h5 ?hh); (case h1 => exact rfl); (case h2 => exact rfl); (case h3 => exact rfl); (case h5 => walk_at "okf"))
  | ((with_reducible refine DP.asks_ok ?h1 _ ?h3 ?hh); (case h1 => exact rfl); (case h3 => walk_at "okf"))
  | ((with_reducible refine DP.cost_of_ok ?h1 _ ?h3 ?hh); (case h1 => exact rfl); (case h3 => exact DP.okl (by walk_at "okf")))
  | ((with_reducible refine DP.waste_ok ?h1 ?h2 _ ?h4 ?hh); (case h1 => exact rfl); (case h2 => exact rfl); (case h4 => walk_at "okf"))
  | ((with_reducible refine DP.first_free_ok ?h1 ?h2 _ ?h4 ?h5 ?h6 ?hh); (case h1 => exact rfl); (case h2 => exact rfl); (case h4 => walk_at "okf"); (case h5 => omega); (case h6 => omega))
  | ((with_reducible refine DP.parts_ok ?h1 _ ?h3 ?h4 ?hh); (case h1 => exact rfl); (case h3 => walk_at "okf"); (case h4 => omega)))
local macro_rules | `(tactic| walk_at "wgo") => `(tactic| (walk_at "wpx"; repeat (walk_at "wgo1"; walk_at "wpx")))
set_option hygiene false in
local macro_rules | `(tactic| walk_at "sp_eq") => `(tactic| (refine DP.ext_ok (by walk_at "okf") (by walk_at "okf") fun k h0 h1 => ?_; simp only [DP.has_jn h0 h1, DP.has_mt h0 h1, DP.has_wo h0 h1, DP.has_tn h0 h1, DP.has_form h0 h1, DP.has_one, DP.has_pr, DP.hasD_nil]))

set_option Elab.async false
set_option linter.all false
set_option maxRecDepth 100000
/-! dicts by ints -/
namespace DP
open DL PySem
open L2 hiding prD
/-! dicts by ints -/
theorem putD_keys (kvs : List (Key × D)) (k : Int) (v : D) (ds : List Int) (h : kvs.map (·.1) = ds.map Sum.inl) : (putD kvs (.inl k) v).map (·.1) = (if k ∈ ds then ds else ds ++ [k]).map Sum.inl := by
  unfold putD
  have e : (kvs.any fun kv => decide (kv.1 = .inl k)) = decide (k ∈ ds) := by
    have : (kvs.any fun kv => decide (kv.1 = .inl k)) = (kvs.map (·.1)).any fun x => decide (x = .inl k) := by rw [List.any_map]; rfl
    rw [this, h, List.any_map, Bool.eq_iff_iff, List.any_eq_true, decide_eq_true_eq]
    constructor
    · rintro ⟨x, hx, h2⟩
      have h3 : (Sum.inl x : Key) = .inl k := by simpa using h2
      cases h3; exact hx
    · intro hx; exact ⟨k, hx, by simp⟩
  rw [e]
  by_cases hk : k ∈ ds
  · rw [if_pos (decide_eq_true hk), if_pos hk, ← h, List.map_map]
    refine List.map_congr_left fun x _ => ?_
    show (if x.1 = .inl k then (x.1, v) else x).1 = x.1
    split <;> rfl
  · rw [if_neg (by simpa using hk), if_neg hk, List.map_append, List.map_append, h]; rfl
theorem merge_keys (v : Int → D) : ∀ (ks : List Int) (kvs : List (Key × D)) (ds : List Int), kvs.map (·.1) = ds.map Sum.inl → ds.Nodup → ∃ es : List Int, (mergeD kvs (ks.map fun k => (.inl k, v k))).map (·.1) = es.map Sum.inl ∧ es.Nodup ∧ ∀ x, x ∈ es ↔ x ∈ ds ∨ x ∈ ks
  | [], kvs, ds, h, nd => ⟨ds, h, nd, fun x => by simp⟩
  | k :: ks, kvs, ds, h, nd => by
    obtain ⟨es, h1, h2, h3⟩ := merge_keys v ks (putD kvs (.inl k) (v k)) _ (putD_keys kvs k (v k) ds h) (by
      split
      · exact nd
      · next hk => exact List.nodup_append.mpr ⟨nd, by simp, fun a ha b hb => by simp at hb; subst hb; intro e; subst e; exact hk ha⟩)
    refine ⟨es, h1, h2, fun x => ?_⟩
    rw [h3]
    split
    · next hk => simp only [List.mem_cons]; constructor
                 · rintro (a | a); exact .inl a; exact .inr (.inr a)
                 · rintro (a | a | a); exact .inl a; subst a; exact .inl hk; exact .inr a
    · simp only [List.mem_cons, List.mem_append, List.not_mem_nil, or_false]; constructor
      · rintro ((a | a) | a); exact .inl a; exact .inr (.inl a); exact .inr (.inr a)
      · rintro (a | a | a); exact .inl (.inl a); exact .inl (.inr a); exact .inr a
theorem sortd_of {x : D} {kvs : List (Key × D)} {ds : List Int} {A : AH} {Q : QE} (hx : dicD A x = some kvs) (h : kvs.map (·.1) = ds.map Sum.inl) (q : newL A ((sortI ds).map .int) Q) : dBi .sortd [x] A Q := by
  show (match dicD A x with | some kvs => (match alls int1 (kvs.map fun kv => ofKey kv.1) with | some ns => newL A ((sortI ns).map .int) Q | none => False) | none => False)
  rw [hx]
  have e : (kvs.map fun kv => ofKey kv.1) = ds.map .int := by
    have : (kvs.map fun kv => ofKey kv.1) = (kvs.map (·.1)).map ofKey := by rw [List.map_map]; rfl
    rw [this, h, List.map_map]; rfl
  simp only [e, alls_ints]
  exact q
theorem dicD_rod {kvs : List (Key × D)} {A : AH} : dicD A (.rod (kvs.map (·.1)) (kvs.map (·.2))) = some kvs := by
  show some ((kvs.map (·.1)).zip (kvs.map (·.2))) = _
  congr 1
  induction kvs with
  | nil => rfl
  | cons p r ih => simp only [List.map_cons, List.zip_cons_cons, ih]
theorem alls_kvs {v : Int → D} : ∀ ks : List Int, alls kv1 (ks.map fun k => D.tup [.int k, v k]) = some (ks.map fun k => ((.inl k : Key), v k))
  | [] => rfl
  | k :: r => by simp only [List.map_cons, alls, kv1, keyD, Option.map_some, alls_kvs r]
theorem dictp_pairs {v : Int → D} {ks : List Int} {A : AH} {Q : QE} (q : newD A (mergeD [] (ks.map fun k => (.inl k, v k))) Q) : dBi .dictp [.fl (ks.map fun k => .tup [.int k, v k])] A Q := by
  show (match lstD A (.fl (ks.map fun k => D.tup [.int k, v k])) with | some xs => (match alls kv1 xs with | some kvs => newD A (mergeD [] kvs) Q | none => False) | none => False)
  simp only [lstD, alls_kvs]
  exact q
theorem sortI_pw (l : List Int) : (sortI l).Pairwise (· ≤ ·) := by
  have := List.pairwise_mergeSort (le := fun a b : Int => decide (a ≤ b)) (fun a b c h1 h2 => by simp at *; omega) (fun a b => by simp; omega) l
  exact this.imp fun h => by simpa using h
/-- each once, rising -/
theorem sort_keys {ds : List Int} {l : PL} (hl : okF 0 l) (nd : ds.Nodup) (h : ∀ x, x ∈ ds ↔ hasD l x = true) : sortI ds = keysOf l := by
  refine pw_ext ?_ (keysOf_pw hl) fun x => ?_
  · have h1 := sortI_pw ds
    have h2 : (sortI ds).Nodup := (sortI_perm ds).nodup_iff.mpr nd
    refine (List.pairwise_and_iff.mpr ⟨h1, h2⟩).imp fun h => ?_
    obtain ⟨a, b⟩ := h
    omega
  · rw [(sortI_perm ds).mem_iff, h, mem_keysOf]
theorem flt_len {α : Type} (f g : α → Bool) : ∀ L : List α, (L.filter fun x => f x || g x).length + (L.filter fun x => f x && g x).length = (L.filter f).length + (L.filter g).length
  | [] => rfl
  | x :: L => by
    have := flt_len f g L
    simp only [List.filter_cons]
    cases f x <;> cases g x <;> simp <;> omega
theorem size_jm {l m : PL} (hl : okF 0 l) (hm : okF 0 m) : sizeOf' (jn l m) + sizeOf' (DP.mt l m) = sizeOf' l + sizeOf' m := by
  rw [← keysOf_len (jn_ok l m), ← keysOf_len (mt_ok l m), ← keysOf_len hl, ← keysOf_len hm, ← keysOf_eq (jn_ok l m), ← keysOf_eq (mt_ok l m), ← keysOf_eq hl, ← keysOf_eq hm]
  have e1 : hasD (jn l m) = fun k => hasD l k || hasD m k := funext fun k => jn_has hl hm k
  have e2 : hasD (DP.mt l m) = fun k => hasD l k && hasD m k := funext fun k => mt_has hl k
  rw [e1, e2]
  have := flt_len (hasD l) (hasD m) (rgI 0 100)
  omega
theorem wi_jn {l m : PL} (hl : okF 0 l) (hm : okF 0 m) : wi l m = true ↔ jn l m = m := by
  rw [wi_iff hl]
  constructor
  · intro h
    refine okF_uniq (jn_ok _ _) hm fun k => ?_
    rw [jn_has hl hm]
    cases e : hasD l k with
    | false => rfl
    | true => rw [h k e]; rfl
  · intro h k hk
    rw [← h, jn_has hl hm, hk]; rfl
theorem wi_mt {l m : PL} (hl : okF 0 l) (hm : okF 0 m) : wi l m = true ↔ DP.mt l m = l := by
  rw [wi_iff hl]
  constructor
  · intro h
    refine okF_uniq (mt_ok _ _) hl fun k => ?_
    rw [mt_has hl]
    cases e : hasD l k with
    | false => rfl
    | true => rw [h k e]; rfl
  · intro h k hk
    rw [← h, mt_has hl, Bool.and_eq_true] at hk; exact hk.2
end DP

set_option Elab.async false
set_option linter.all false
set_option maxRecDepth 100000
set_option maxHeartbeats 1000000
/-! texts of spreads -/
namespace DP
open DL PySem
open L2 hiding prD
def numT (i : Int) : Str := Str.ofString (toString i)
def sayP (p : Int × Int) : Str := (Str.empty ++ numT p.1 ++ "-") ++ numT p.2
def sayT (l : PL) : Str := Txt.join "," (l.map sayP)
theorem empty_app (a : Str) : Str.empty ++ a = a := TL.ext_tl (by rw [TL.tl_append]; rfl)
theorem tl_numT {n : Nat} : TL.tl (numT (n : Int)) = TL.numL n := TL.tl_num n
theorem numT_len {i : Int} (h0 : 0 ≤ i) (h1 : i ≤ 100) : 1 ≤ (numT i).length ∧ (numT i).length ≤ 3 := by
  obtain ⟨n, rfl⟩ := Int.eq_ofNat_of_zero_le h0
  rw [TL.len_tl, tl_numT]
  refine ⟨?_, TL.numL_len (by decide) (by omega)⟩
  have := TL.numL_ne n
  cases e : TL.numL n with
  | nil => exact absurd e this
  | cons a r => simp
theorem numT_dig {i : Int} (h0 : 0 ≤ i) : ∀ c ∈ (numT i).cps.toList, 48 ≤ c ∧ c ≤ 57 := by
  obtain ⟨n, rfl⟩ := Int.eq_ofNat_of_zero_le h0
  intro c hc
  exact TL.numL_digits n c (by rw [← tl_numT]; exact hc)
theorem numT_int {i : Int} (h0 : 0 ≤ i) (h1 : i ≤ 100) : intText? (numT i) = some i := by
  have hl := (numT_len h0 h1).2
  obtain ⟨n, rfl⟩ := Int.eq_ofNat_of_zero_le h0
  rw [TL.len_tl, tl_numT] at hl
  exact TL.int_num (by omega)
theorem sayP_join (p : Int × Int) : sayP p = Txt.join "-" [numT p.1, numT p.2] := by
  unfold sayP
  rw [empty_app, TL.join_eq]; rfl
theorem len_app' (a b : Str) : (a ++ b).length = a.length + b.length := by
  show (a.cps ++ b.cps).size = _
  rw [Array.size_append]; rfl
theorem sayP_len {p : Int × Int} (h : okSt p) : (sayP p).length ≤ 7 := by
  have h0 : 0 ≤ p.1 := h.1
  have h1 : p.1 < p.2 := h.2.1
  have h2 : p.2 ≤ 100 := h.2.2
  have a := numT_len h0 (by omega)
  have b := numT_len (i := p.2) (by omega) h2
  unfold sayP
  rw [empty_app, len_app', len_app']
  have : ("-" : Str).length = 1 := by decide
  omega
theorem split_sayP {p : Int × Int} (h : okSt p) : Txt.split (sayP p) "-" = [numT p.1, numT p.2] := by
  have h0 : 0 ≤ p.1 := h.1
  have h1 : p.1 < p.2 := h.2.1
  rw [sayP_join]
  refine TL.split_join (s := 45) (S := []) (by decide +kernel) (by decide +kernel) (by simp) fun z hz hm => ?_
  simp only [List.mem_cons, List.not_mem_nil, or_false] at hz
  rcases hz with rfl | rfl
  · have := numT_dig h0 45 hm; omega
  · have := numT_dig (i := p.2) (by omega) 45 hm; omega
theorem split_sayT {l : PL} (hl : ∀ p ∈ l, okSt p) (hne : l ≠ []) : Txt.split (sayT l) "," = l.map sayP := by
  refine TL.split_join (s := 44) (S := []) (by decide +kernel) (by decide +kernel) (by simpa using hne) fun z hz hm => ?_
  obtain ⟨p, hp, rfl⟩ := List.mem_map.mp hz
  have h := hl p hp
  have h0 : 0 ≤ p.1 := h.1
  have h1 : p.1 < p.2 := h.2.1
  unfold sayP at hm
  rw [empty_app, TL.tl_append, TL.tl_append, List.mem_append, List.mem_append] at hm
  rcases hm with (hm | hm) | hm
  · have := numT_dig h0 44 hm; omega
  · revert hm; decide
  · have := numT_dig (i := p.2) (by omega) 44 hm; omega
section
variable {G : Gm} {n : Nat} {A : AH} {Q : QE} {E : XQ} {l : PL}
theorem log_ok {i : Int} (h0 : 0 ≤ i) (h1 : i ≤ 100) : fmtOk (.int i) := by
  show i.natAbs.log2 < 1920
  have : i.natAbs ≤ 100 := by omega
  exact Nat.lt_of_le_of_lt (Nat.log2_le_self _) (by omega)
theorem alls_strs (zs : List Str) : alls str1 (zs.map .str) = some zs := by
  induction zs with
  | nil => rfl
  | cons z r ih => simp only [List.map_cons, alls, ih, str1]
theorem x_joinF {y : Str} {zs : List Str} {A : AH} {Q : QE} : dBm .join (.str y) [.fl (zs.map .str)] A Q = ((zs.map (·.length)).sum + zs.length * y.length ≤ 16777216 ∧ Q (.str (Txt.join y zs)) A) := by
  show (match lstD A (.fl (zs.map .str)) with
    | some xs => match alls str1 xs with
      | some zs => (zs.map fun z : Str => z.length).sum + zs.length * y.length ≤ 16777216 ∧ Q (.str (Txt.join y zs)) A
      | none => False
    | none => False) = _
  simp only [lstD, alls_strs]
theorem sum_say {l : PL} (hl : ∀ p ∈ l, okSt p) : ((l.map sayP).map (·.length)).sum ≤ 7 * l.length := by
  induction l with
  | nil => simp
  | cons p r ih =>
    have h1 := sayP_len (hl p List.mem_cons_self)
    have h2 := ih fun q hq => hl q (List.mem_cons_of_mem _ hq)
    simp only [List.map_cons, List.sum_cons, List.length_cons]
    omega
theorem written_ok (h57 : G.fn 57 = some ⟨1, 3, IR.written⟩) (hl : ∀ p ∈ l, okSt p) (hz : l.length ≤ 1000) (q : Q (.str (sayT l)) A) : callN G (n + 1) 57 [spd l] A Q E := by
  refine callN_mk h57 rfl ?_
  unfold IR.written
  walk_at "wpx"
  refine ⟨trivial, DL.size_ok (by rw [List.length_map]; omega), ?_⟩
  refine comp_of prD (fun p => .str (sayP p)) True.intro (fun p hp R r => ?_) ?_
  · have h := hl p hp
    have h0 : 0 ≤ p.1 := h.1
    have h1 : p.1 < p.2 := h.2.1
    have h2 : p.2 ≤ 100 := h.2.2
    have a := numT_len h0 (by omega)
    have b := numT_len (i := p.2) (by omega) h2
    rw [show prD p = .tup [.int p.1, .int p.2] from rfl]
    walk_at "wpx"
    refine ⟨fun d hd => ?_, ?_⟩
    · simp only [List.mem_cons, List.not_mem_nil, or_false] at hd
      rcases hd with rfl | rfl | rfl
      · exact log_ok h0 (by omega)
      · show ("-" : Str).length ≤ sizeLine
        decide
      · exact log_ok (by omega) h2
    · show (([numT p.1, "-", numT p.2] : List Str).foldl (· ++ ·) Str.empty).length ≤ sizeLine ∧ (([numT p.1, "-", numT p.2] : List Str).map (·.length)).sum ≤ sizeLine ∧ R (.str (sayP p)) A
      have hs := sayP_len h
      refine ⟨Nat.le_trans (show (sayP p).length ≤ 7 from hs) (by decide), ?_, r⟩
      have : ("-" : Str).length = 1 := by decide
      simp only [List.map_cons, List.map_nil, List.sum_cons, List.sum_nil]
      refine Nat.le_trans (show _ ≤ 7 by omega) (by decide)
  refine newL_fz ?_
  walk_at "wpx"
  rw [show l.map (fun p => D.str (sayP p)) = (l.map sayP).map .str by rw [List.map_map]; rfl]
  rw [x_joinF]
  have hs := sum_say hl
  refine ⟨?_, ret_here q⟩
  have : ("," : Str).length = 1 := by decide
  rw [this, List.length_map]
  omega
theorem mem_joinL {S : List Nat} {c : Nat} : ∀ {ps : List (List Nat)}, c ∈ TL.joinL S ps → c ∈ S ∨ ∃ p ∈ ps, c ∈ p
  | [], h => by cases h
  | [p], h => .inr ⟨p, List.mem_cons_self, h⟩
  | p :: q :: r, h => by
    have h : c ∈ p ++ (S ++ TL.joinL S (q :: r)) := h
    rcases List.mem_append.mp h with h | h
    · exact .inr ⟨p, List.mem_cons_self, h⟩
    · rcases List.mem_append.mp h with h | h
      · exact .inl h
      · rcases mem_joinL h with h | ⟨z, hz, h⟩
        · exact .inl h
        · exact .inr ⟨z, List.mem_cons_of_mem _ hz, h⟩
theorem sayT_sgn {l : PL} (hl : ∀ p ∈ l, okSt p) : ∀ c ∈ (sayT l).cps.toList, c < 128 := by
  intro c hc
  unfold sayT at hc
  have hc : c ∈ TL.tl (Txt.join "," (l.map sayP)) := hc
  rw [TL.join_eq, TL.tl_join] at hc
  rcases mem_joinL hc with h | ⟨z, hz, h⟩
  · have : c = 44 := by simpa [show TL.tl ("," : Str) = [44] by decide +kernel] using h
    omega
  · obtain ⟨w, hw, rfl⟩ := List.mem_map.mp hz
    obtain ⟨p, hp, rfl⟩ := List.mem_map.mp hw
    have g := hl p hp
    have h0 : 0 ≤ p.1 := g.1
    have h1 : p.1 < p.2 := g.2.1
    unfold sayP at h
    rw [empty_app, TL.tl_append, TL.tl_append, List.mem_append, List.mem_append] at h
    rcases h with (h | h) | h
    · have := numT_dig h0 c h; omega
    · have : c = 45 := by simpa [show TL.tl ("-" : Str) = [45] by decide +kernel] using h
      omega
    · have := numT_dig (i := p.2) (by omega) c h; omega
theorem sayT_ok {l : PL} (hl : ∀ p ∈ l, okSt p) : PyData.strOk (sayT l) = true := by
  unfold PyData.strOk
  rw [Array.all_eq_true_iff_forall_mem]
  intro c hc
  have := sayT_sgn hl c (Array.mem_toList_iff.mpr hc)
  exact decide_eq_true (by omega)
theorem sayT_ne {l : PL} (h : l ≠ []) : 45 ∈ (sayT l).cps.toList := by
  show 45 ∈ TL.tl (Txt.join "," (l.map sayP))
  rw [TL.join_eq, TL.tl_join]
  have hp : ∀ p : Int × Int, 45 ∈ TL.tl (sayP p) := fun p => by
    unfold sayP
    rw [empty_app, TL.tl_append, TL.tl_append]
    exact List.mem_append_left _ (List.mem_append_right _ (by decide +kernel))
  match l, h with
  | [p], _ => exact hp p
  | p :: q :: r, _ => exact List.mem_append_left _ (hp p)
theorem joinL_len {S : List Nat} : ∀ ps : List (List Nat), (TL.joinL S ps).length ≤ (ps.map List.length).sum + ps.length * S.length
  | [] => by simp [TL.joinL]
  | [p] => by simp [TL.joinL]
  | p :: q :: r => by
    have ih := joinL_len (S := S) (q :: r)
    show (p ++ (S ++ TL.joinL S (q :: r))).length ≤ _
    rw [List.length_append, List.length_append]
    simp only [List.map_cons, List.sum_cons, List.length_cons] at ih ⊢
    rw [Nat.add_mul, Nat.add_mul] at *
    omega
theorem sayT_len {l : PL} (hl : ∀ p ∈ l, okSt p) : (sayT l).length ≤ 8 * l.length := by
  rw [TL.len_tl]
  unfold sayT
  rw [TL.join_eq, TL.tl_join]
  refine Nat.le_trans (joinL_len _) ?_
  have h1 := sum_say hl
  rw [List.map_map, List.length_map, List.length_map]
  have h2 : ((l.map sayP).map (List.length ∘ TL.tl)).sum = ((l.map sayP).map (·.length)).sum := by
    congr 1
  rw [h2]
  have : (TL.tl ("," : Str)).length = 1 := by decide
  rw [this]
  omega
theorem x_neSt {x y : Str} {A : AH} {Q : QE} (hx : PyData.strOk x = true) (hy : PyData.strOk y = true) : dCmp .ne (.str x) (.str y) A Q = Q (.bl (!PyData.eqv (.str x) (.str y))) A := by
  show (match pd A 6 (.str x), pd A 6 (.str y) with | some p, some q => Q (.bl (!PyData.eqv p q)) A | _, _ => False) = _
  simp only [pd, hx, hy, if_true]
theorem eqvS {x y : Str} : PyData.eqv (.str x) (.str y) = (x == y) := by
  first | rfl | simp [PyData.eqv]
theorem eqvS_same {x : Str} : PyData.eqv (.str x) (.str x) = true := by rw [eqvS]; exact beq_self_eq_true x
theorem x_ints {z : Str} {i : Int} {A : AH} {Q : QE} (h : intText? z = some i) (hl : z.length ≤ 640) (q : Q (.int i) A) : dBi .ints [.str z] A Q := by
  show (match PySem.intText? z with | some i => z.length ≤ 640 ∧ Q (.int i) A | none => False)
  rw [h]; exact ⟨hl, q⟩
theorem x_splitF {y z : Str} {A : AH} {Q : QE} (hy : (y.length == 0) = false) (hz : z.length + 2 ≤ sizeLine) (q : newL A ((Txt.split z y).map .str) Q) : dBm .split (.str z) [.str y] A Q := ⟨hy, hz, q⟩
theorem number_in_ok (h58 : G.fn 58 = some ⟨1, 2, IR.number_in⟩) {i : Int} (h0 : 0 ≤ i) (h1 : i ≤ 100) (q : Q (.int i) A) : callN G (n + 1) 58 [.str (numT i)] A Q E := by
  have hl := numT_len h0 h1
  have hd := numT_dig h0
  have hi := numT_int h0 h1
  generalize numT i = z at hl hd hi
  refine callN_mk h58 rfl ?_
  unfold IR.number_in
  walk_at "wpx"
  have hz : z.length ≤ sizeLine := Nat.le_trans hl.2 (by decide)
  refine ⟨hz, ?_⟩
  walk_at "wpx"
  rw [decide_eq_true (by omega : (1 : Int) ≤ (z.length : Int))]
  walk_at "wpx"
  rw [decide_eq_true (by omega : (z.length : Int) ≤ 3)]
  walk_at "wpx"
  refine ⟨DL.size_ok (by rw [List.length_map]; show z.cps.toList.length ≤ _; rw [Array.length_toList]; exact Nat.le_trans hl.2 (by decide)), ?_⟩
  refine comp_of (fun c : Nat => D.str ⟨#[c]⟩) (fun c => .bl true) True.intro (fun c hc R r => ?_) ?_
  · rw [g_nm]
    walk_at "wpx"
    show R (.bl (decide (c ∈ ("0123456789" : Str).cps.toList))) A
    have h := hd c hc
    have : c ∈ ("0123456789" : Str).cps.toList := by
      have : c = 48 ∨ c = 49 ∨ c = 50 ∨ c = 51 ∨ c = 52 ∨ c = 53 ∨ c = 54 ∨ c = 55 ∨ c = 56 ∨ c = 57 := by omega
      rcases this with rfl | rfl | rfl | rfl | rfl | rfl | rfl | rfl | rfl | rfl <;> decide +kernel
    rw [decide_eq_true this]
    exact r
  refine newL_fz ?_
  walk_at "wpx"
  rw [show z.cps.toList.map (fun _ => D.bl true) = (z.cps.toList.map fun _ => true).map .bl by rw [List.map_map]; rfl, x_allF]
  rw [show (z.cps.toList.map fun _ => true).all id = true by rw [List.all_map, List.all_eq_true]; intro _ _; rfl]
  walk_at "wgo"
  refine x_ints hi (by omega) ?_
  exact ret_here q
theorem stretch_in_ok (h58 : G.fn 58 = some ⟨1, 2, IR.number_in⟩) (h59 : G.fn 59 = some ⟨1, 2, IR.stretch_in⟩) {p : Int × Int} (h : okSt p) (q : Q (prD p) A) : callN G (n + 2) 59 [.str (sayP p)] A Q E := by
  have h0 : 0 ≤ p.1 := h.1
  have h1 : p.1 < p.2 := h.2.1
  have h2 : p.2 ≤ 100 := h.2.2
  have hl := sayP_len h
  have hs := split_sayP h
  generalize sayP p = z at hl hs
  refine callN_mk h59 rfl ?_
  unfold IR.stretch_in
  walk_at "wpx"
  refine ⟨trivial, ?_⟩
  refine x_splitF (by decide) (Nat.le_trans (Nat.add_le_add_right hl 2) (by decide)) ?_
  rw [hs]
  refine newL_fz ?_
  walk_at "wgo"
  rw [show decide (((2 : Nat) : Int) = (2 : Int)) = true from by decide]
  walk_at "wgo"
  rw [x_ixF (atI0 _ _)]
  refine number_in_ok (n := n) h58 h0 (by omega) ?_
  walk_at "wpx"
  rw [x_ixF (atI1 _ _ _)]
  refine number_in_ok (n := n) h58 (by omega) h2 ?_
  walk_at "wgo"
  exact ret_here q
theorem gAsg_monoX : ∀ (tg : Tg) (x : D) (δ : DSt) (A : AH) (Q Q' : DSt → Prop), (∀ δ, Q δ → Q' δ) → gAsg tg x δ A Q → gAsg tg x δ A Q' := fun tg x δ A Q Q' k h => gAsg_mono _ _ _ _ _ _ (fun δ' q => k δ' q) h
/-- a comprehension of things of one kind, where a turn may raise -/
def allsO {α β : Type} (f : α → Option β) : List α → Option (List β)
  | [] => some []
  | d :: ds => match f d, allsO f ds with | some x, some xs => some (x :: xs) | _, _ => none
theorem compx_of {α : Type} {tg : Tg} {g : AH → Prop} {e : WE} {c : CallT} {δ : DSt} {E : XQ} {i : Nat} (m : α → D) (f : α → Option D) {xs : List α} (hg : g A) (he : ∀ a ∈ xs, ∀ R : QE, (match f a with | some y => R y A | none => E i A) → gAsg tg (m a) δ A fun δ' => e δ' A R E) (h : match allsO f xs with | some ys => newL A ys Q | none => E i A) : dCompX tg g (wpT c G .yes) e δ (xs.map m) [] A Q E := by
  suffices ∀ (l : List α) (acc : List D), (∀ a ∈ l, a ∈ xs) → (match allsO f l with | some ys => newL A (acc ++ ys) Q | none => E i A) → dCompX tg g (wpT c G .yes) e δ (l.map m) acc A Q E from this xs [] (fun _ h => h) (by simpa using h)
  intro l
  induction l with
  | nil => intro acc _ h; simp only [allsO, List.append_nil] at h; exact ⟨hg, h⟩
  | cons a l ih =>
    intro acc hl h
    refine ⟨hg, ?_⟩
    have h1 := he a (hl a List.mem_cons_self) (fun y A2 => dCompX tg g (wpT c G .yes) e δ (l.map m) (acc ++ [y]) A2 Q E) (by
      unfold allsO at h
      cases e1 : f a with
      | none => rw [e1] at h; exact h
      | some y =>
        rw [e1] at h
        refine ih _ (fun b hb => hl b (List.mem_cons_of_mem _ hb)) ?_
        cases e2 : allsO f l with
        | none => rw [e2] at h; exact h
        | some ys => rw [e2] at h; dsimp only at h ⊢; rw [List.append_assoc]; exact h)
    refine gAsg_mono _ _ _ _ _ _ (fun δ' q => ?_) h1
    rw [wq_yes, if_pos rfl]; exact q
theorem allsO_map {α β : Type} {f : α → Option β} {g : α → β} : ∀ {xs : List α}, (∀ a ∈ xs, f a = some (g a)) → allsO f xs = some (xs.map g)
  | [], _ => rfl
  | a :: r, h => by
    unfold allsO
    rw [h a List.mem_cons_self, allsO_map fun b hb => h b (List.mem_cons_of_mem _ hb)]
    rfl
/-- what was said is read again -/
theorem read_ok (g1 : G.fn 1 = some ⟨3, 3, IR.is_whole⟩) (g2 : G.fn 2 = some ⟨1, 1, IR.is_stretch⟩) (g3 : G.fn 3 = some ⟨1, 3, IR.is_spread⟩) (h57 : G.fn 57 = some ⟨1, 3, IR.written⟩) (h58 : G.fn 58 = some ⟨1, 2, IR.number_in⟩) (h59 : G.fn 59 = some ⟨1, 2, IR.stretch_in⟩) (h60 : G.fn 60 = some ⟨1, 3, IR.read⟩) (hl : okF 0 l) (q : Q (spd l) A) : callN G (n + 4) 60 [.str (sayT l)] A Q E := by
  have hst : ∀ p ∈ l, okSt p := fun p hp => okF_st hl (Int.le_refl _) p hp
  have hlen : l.length ≤ 1000 := by have := okF_len' hl; omega
  have hT := sayT_ok hst
  refine callN_mk h60 rfl ?_
  have tail : later (callN G (n + 3)) G (IR.read.drop 2) (endP Q E) [some (.str (sayT l)), some (spd l), none] A := by
    refine later_go ?_
    unfold IR.read
    simp only [List.drop_succ_cons, List.drop_zero]
    walk_at "wpx"
    refine is_spread_spd g1 g2 g3 n hl ?_
    walk_at "wpx"
    refine written_ok (n := n + 2) h57 hst hlen ?_
    rw [x_neSt hT hT, eqvS_same]
    walk_at "wgo"
    exact ret_here q
  generalize hrs : IR.read.drop 2 = rs at tail
  unfold IR.read at hrs ⊢
  simp only [List.drop_succ_cons, List.drop_zero] at hrs
  rw [hrs]
  walk_at "wpx"
  refine later_go ?_
  walk_at "wpx"
  rw [x_neSt hT (by decide +kernel)]
  rcases List.eq_nil_or_concat l with rfl | ⟨l', p, e⟩
  · have e : sayT [] = "" := rfl
    rw [e, eqvS_same]
    rw [e] at tail
    walk_at "wpx"
    exact tail
  · have hne : l ≠ [] := by rw [e]; simp
    have hnt : PyData.eqv (.str (sayT l)) (.str "") = false := by
      rw [eqvS]
      refine beq_eq_false_iff_ne.mpr fun h => ?_
      have h1 := sayT_ne hne
      rw [h] at h1
      revert h1; decide
    have hsl : (sayT l).length ≤ 8 * l.length := sayT_len hst
    rw [hnt]
    walk_at "wgo"
    refine ⟨trivial, ?_⟩
    refine x_splitF (by decide) (Nat.le_trans (show _ ≤ 8002 by omega) (by decide)) ?_
    rw [split_sayT hst hne]
    refine newL_fz ?_
    walk_at "wpx"
    refine ⟨DL.size_ok (by rw [List.length_map, List.length_map]; omega), ?_⟩
    rw [List.map_map]
    refine compx_of (i := 0) (fun p => D.str (sayP p)) (fun p => some (prD p)) True.intro (fun p hp R r => ?_) ?_
    · rw [g_nm]
      walk_at "wpx"
      exact stretch_in_ok (n := n + 1) h58 h59 (hst p hp) r
    rw [allsO_map (g := prD) fun _ _ => rfl]
    refine newL_fz ?_
    walk_at "wgo"
    exact tail
end
end DP

set_option Elab.async false
set_option linter.all false
set_option maxRecDepth 100000
/-! ranges with a step; slices of truths; parts piece by piece -/
namespace DP
open DL PySem
open L2 hiding prD
theorem rg_dn {i j : Int} (hi : -10000 ≤ i ∧ i ≤ 10000) (hj : -10000 ≤ j ∧ j ≤ 10000) : RgC i j (-1) (i - j).toNat := by
  have e : Builtin.Range.rangeSize i j (-1) = ((i - j).toNat : Int) := by
    unfold Builtin.Range.rangeSize
    simp only [show ¬ ((-1 : Int) > 0) by decide, if_false, show (-(-1) : Int) = 1 from rfl, Int.ediv_one]
    split <;> omega
  refine ⟨by decide, by decide, ?_, e⟩
  unfold Builtin.Range.small
  rw [e]
  simp only [Builtin.Range.rangeFitsLong, Bool.and_eq_true, Bool.or_eq_true, decide_eq_true_eq, beq_iff_eq, show ¬ ((-1 : Int) > 0) by decide, if_false]
  omega
theorem rg_st {i j c : Int} (hi : 0 ≤ i) (hij : i < j) (hj : j ≤ 10000) (hc : 0 < c) (hc2 : c ≤ 10000) : RgC i j c ((j - i - 1) / c + 1).toNat := by
  have h0 : 0 ≤ (j - i - 1) / c := Int.ediv_nonneg (by omega) (by omega)
  have h1 : (j - i - 1) / c ≤ j - i - 1 := Int.ediv_le_self _ (by omega)
  have e : Builtin.Range.rangeSize i j c = (((j - i - 1) / c + 1).toNat : Int) := by
    unfold Builtin.Range.rangeSize
    rw [if_pos hc, if_pos hij]
    omega
  refine ⟨by omega, by omega, ?_, e⟩
  unfold Builtin.Range.small
  rw [e]
  generalize (j - i - 1) / c = q at h0 h1
  simp only [Builtin.Range.rangeFitsLong, Bool.and_eq_true, Bool.or_eq_true, decide_eq_true_eq, beq_iff_eq]
  rw [if_pos hc]
  simp only [Bool.and_eq_true, decide_eq_true_eq]
  omega
theorem cut_nn {α : Type} (xs : List α) {i j : Nat} (h : i ≤ j) (hj : j ≤ xs.length) : cutL xs (some (i : Int)) (some (j : Int)) = (xs.drop i).take (j - i) := by
  unfold cutL
  rw [HT.sIx_nat, HT.sIx_nat, Nat.min_eq_left hj, Nat.min_eq_left (Nat.le_trans h hj)]
theorem cut_bls {f : Int → Bool} {a b : Int} (h0 : 0 ≤ a) (h1 : a ≤ b) (h2 : b ≤ 100) : cutL (bls f) (some a) (some b) = (rgI a b).map fun k => .bl (f k) := by
  obtain ⟨i, rfl⟩ := Int.eq_ofNat_of_zero_le h0
  obtain ⟨j, rfl⟩ := Int.eq_ofNat_of_zero_le (Int.le_trans h0 h1)
  rw [cut_nn _ (by omega) (by rw [bls_len]; omega)]
  unfold bls rgI
  rw [List.map_map, List.map_map]
  refine List.ext_getElem? fun m => ?_
  rw [List.getElem?_take]
  split
  · next hm =>
    rw [List.getElem?_drop, List.getElem?_map, List.getElem?_map, List.getElem?_range (by simp; omega), List.getElem?_range (by omega)]
    simp
  · next hm =>
    rw [List.getElem?_map, List.getElem?_eq_none (by simp; omega)]; rfl
theorem nin_rgb {f : Int → Bool} {a b : Int} {A : AH} {Q : QE} (k : ∀ v, (v = true ↔ ∀ k, a ≤ k → k < b → f k = false) → Q (.bl v) A) : dCmp .nin (.bl true) (.fl ((rgI a b).map fun k => .bl (f k))) A Q := by
  have e1 : ((rgI a b).map fun k => D.bl (f k)).all flatD = true := by rw [List.all_map]; exact List.all_eq_true.mpr fun _ _ => rfl
  have e2 : inV (flV (.bl true)) (((rgI a b).map fun k => D.bl (f k)).map flV) = true ↔ ∃ k, a ≤ k ∧ k < b ∧ f k = true := by
    unfold inV
    rw [List.map_map, List.any_map, List.any_eq_true]
    constructor
    · rintro ⟨k, hk, h⟩
      have hk := mem_rgI.mp hk
      have h : (f k == true) = true := h
      exact ⟨k, hk.1, hk.2, by cases e : f k with | true => rfl | false => rw [e] at h; cases h⟩
    · rintro ⟨k, h0, h1, e⟩
      exact ⟨k, mem_rgI.mpr ⟨h0, h1⟩, by show (f k == true) = true; rw [e]; rfl⟩
  simp only [dCmp, seq_fl, e1, flatD, true_and]
  refine k _ ?_
  rw [Bool.not_eq_true', Bool.eq_false_iff, Ne, e2]
  constructor
  · intro h j h0 h1
    cases e : f j with
    | false => rfl
    | true => exact absurd ⟨j, h0, h1, e⟩ h
  · rintro h ⟨j, h0, h1, e⟩
    rw [h j h0 h1] at e; cases e
theorem pcs_list {m : Int} (hm : 0 < m) : ∀ (f : Nat) (a b : Int), b - a ≤ f → a < b → pcs m f a b = (List.range ((b - a - 1) / m + 1).toNat).map fun i => (a + (i : Nat) * m, if a + (i : Nat) * m + m < b then a + (i : Nat) * m + m else b)
  | 0, a, b, h1, h2 => by omega
  | f + 1, a, b, h1, h2 => by
    unfold pcs
    split
    · next c =>
      have e : (b - a - 1) / m = (b - (a + m) - 1) / m + 1 := by
        have : b - a - 1 = (b - (a + m) - 1) + m := by omega
        rw [this, Int.add_ediv_of_dvd_right (Int.dvd_refl m), Int.ediv_self (by omega)]
      have h0 : 0 ≤ (b - (a + m) - 1) / m := Int.ediv_nonneg (by omega) (by omega)
      rw [e, show ((b - (a + m) - 1) / m + 1 + 1).toNat = ((b - (a + m) - 1) / m + 1).toNat + 1 by omega, List.range_succ_eq_map, List.map_cons, List.map_map, pcs_list hm f (a + m) b (by omega) (by omega)]
      congr 1
      · simp
        omega
      · refine List.map_congr_left fun i _ => ?_
        show _ = (a + ((i + 1 : Nat) : Int) * m, if a + ((i + 1 : Nat) : Int) * m + m < b then a + ((i + 1 : Nat) : Int) * m + m else b)
        have : a + ((i + 1 : Nat) : Int) * m = a + m + (i : Int) * m := by
          rw [Int.natCast_add, Int.add_mul]; simp; omega
        rw [this]
    · next c =>
      have e : (b - a - 1) / m = 0 := Int.ediv_eq_zero_of_lt (by omega) (by omega)
      rw [e]
      simp
      omega
theorem enum_at {xs : List D} {j i : Nat} {x : D} (h : (enumD j xs)[i]? = some x) : ∃ y, xs[i]? = some y ∧ x = .tup [.int (j + i : Nat), y] := by
  induction xs generalizing j i with
  | nil => cases h
  | cons a r ih =>
    cases i with
    | zero => exact ⟨a, rfl, by injection h with h; exact h.symm⟩
    | succ i =>
      obtain ⟨y, h1, h2⟩ := ih (j := j + 1) (i := i) h
      exact ⟨y, h1, by rw [h2, show j + 1 + i = j + (i + 1) by omega]⟩
theorem enum_long {xs : List D} {j : Nat} : (enumD j xs).length = xs.length := by
  induction xs generalizing j with
  | nil => rfl
  | cons a r ih => show (enumD (j + 1) r).length + 1 = _; rw [ih]; rfl
end DP

set_option Elab.async false
set_option linter.all false
set_option maxRecDepth 100000
/-! asks that fill some gaps -/
namespace DP
open DL PySem
open L2 hiding prD
def mgB (b : Bool) (acc : PL) (p : Int × Int) : PL := match acc.getLast? with
  | some l => if b = true then acc.dropLast ++ [(l.1, p.2)] else acc ++ [p]
  | none => [p]
theorem mgB_nil (b : Bool) (p : Int × Int) : mgB b [] p = [p] := rfl
theorem mgB_snoc (b : Bool) (i : PL) (l p : Int × Int) : mgB b (i ++ [l]) p = if b = true then i ++ [(l.1, p.2)] else i ++ [l] ++ [p] := by
  unfold mgB
  rw [List.getLast?_append]
  simp
def flR (b : Nat → Bool) : Nat → Int × Int → PL → PL
  | _, c, [] => [c]
  | i, c, p :: r => if b i = true then flR b (i + 1) (c.1, p.2) r else c :: flR b (i + 1) p r
/-- the gaps told by b are asked for, too -/
def fillL (b : Nat → Bool) : PL → PL
  | [] => []
  | c :: r => flR b 0 c r
theorem mgB_cons {b : Bool} {a : Int × Int} {acc : PL} {p : Int × Int} (h : acc ≠ []) : mgB b (a :: acc) p = a :: mgB b acc p := by
  rcases nil_or_snoc acc with rfl | ⟨i, l, rfl⟩
  · exact absurd rfl h
  · rw [show a :: (i ++ [l]) = (a :: i) ++ [l] from rfl, mgB_snoc, mgB_snoc]; split <;> rfl
theorem flR_ne (b : Nat → Bool) : ∀ (r : PL) (i : Nat) (c : Int × Int), flR b i c r ≠ []
  | [], _, _ => by simp [flR]
  | p :: r, i, c => by unfold flR; split; exact flR_ne b r _ _; simp
theorem flR_snoc (b : Nat → Bool) (p : Int × Int) : ∀ (r : PL) (i : Nat) (c : Int × Int), flR b i c (r ++ [p]) = mgB (b (i + r.length)) (flR b i c r) p
  | [], i, c => by
    rw [List.nil_append]
    show (if b i = true then [(c.1, p.2)] else [c, p]) = mgB (b i) ([] ++ [c]) p
    rw [mgB_snoc]; rfl
  | q :: r, i, c => by
    rw [List.cons_append]
    unfold flR
    have e : i + (q :: r).length = (i + 1) + r.length := by rw [List.length_cons]; omega
    split
    · rw [flR_snoc b p r, e]
    · rw [flR_snoc b p r, e, mgB_cons (flR_ne b r _ _)]
theorem fill_snoc (b : Nat → Bool) (l : PL) (p : Int × Int) : fillL b (l ++ [p]) = mgB (b (l.length - 1)) (fillL b l) p := by
  cases l with
  | nil => rfl
  | cons c r =>
    show flR b 0 c (r ++ [p]) = mgB _ (flR b 0 c r) p
    rw [flR_snoc]; simp
theorem flR_congr {b b' : Nat → Bool} : ∀ (r : PL) (i : Nat) (c : Int × Int), (∀ j, j < r.length → b (i + j) = b' (i + j)) → flR b i c r = flR b' i c r
  | [], _, _, _ => rfl
  | p :: r, i, c, h => by
    have h0 := h 0 (by simp)
    have ih := fun c => flR_congr (b := b) (b' := b') r (i + 1) c fun j hj => by rw [show i + 1 + j = i + (j + 1) by omega]; exact h (j + 1) (by simp; omega)
    unfold flR
    rw [Nat.add_zero] at h0
    rw [h0, ih, ih]
theorem fill_congr {b b' : Nat → Bool} {l : PL} (h : ∀ j, j + 1 < l.length → b j = b' j) : fillL b l = fillL b' l := by
  cases l with
  | nil => rfl
  | cons c r => exact flR_congr r 0 c fun j hj => by rw [Nat.zero_add]; exact h j (by simp; omega)
/-! the gaps -/
def gps : Int × Int → PL → List Int
  | _, [] => []
  | c, p :: r => (p.1 - c.2) :: gps p r
def gapsL : PL → List Int
  | [] => []
  | c :: r => gps c r
theorem gps_len : ∀ (r : PL) (c : Int × Int), (gps c r).length = r.length
  | [], _ => rfl
  | p :: r, c => by show (gps p r).length + 1 = _; rw [gps_len r p]; rfl
theorem gapsL_len (l : PL) : (gapsL l).length = l.length - 1 := by
  cases l with
  | nil => rfl
  | cons c r => exact gps_len r c
/-- the sum of what b tells -/
def sumB (b : Nat → Bool) : Nat → List Int → Int
  | _, [] => 0
  | i, g :: r => (if b i = true then g else 0) + sumB b (i + 1) r
def cntB (b : Nat → Bool) : Nat → List Int → Nat
  | _, [] => 0
  | i, g :: r => (if b i = true then 1 else 0) + cntB b (i + 1) r
theorem flR_size (b : Nat → Bool) : ∀ (r : PL) (i : Nat) (c : Int × Int), sizeOf' (flR b i c r) = sizeOf' (c :: r) + sumB b i (gps c r)
  | [], i, c => by show sizeOf' [c] = sizeOf' [c] + 0; omega
  | p :: r, i, c => by
    unfold flR
    show _ = _ + ((if b i = true then p.1 - c.2 else 0) + sumB b (i + 1) (gps p r))
    have ih := flR_size b r (i + 1) p
    split
    · have ih2 := flR_size b r (i + 1) (c.1, p.2)
      have e : gps (c.1, p.2) r = gps p r := by cases r <;> rfl
      rw [e] at ih2
      rw [ih2]
      simp only [size_cons']
      omega
    · rw [size_cons', ih, size_cons' c]
      omega
theorem flR_len (b : Nat → Bool) : ∀ (r : PL) (i : Nat) (c : Int × Int), (flR b i c r).length + cntB b i (gps c r) = r.length + 1
  | [], i, c => rfl
  | p :: r, i, c => by
    unfold flR
    show _ + ((if b i = true then 1 else 0) + cntB b (i + 1) (gps p r)) = _
    have ih := flR_len b r (i + 1) p
    split
    · have ih2 := flR_len b r (i + 1) (c.1, p.2)
      have e : gps (c.1, p.2) r = gps p r := by cases r <;> rfl
      rw [e] at ih2
      rw [List.length_cons]; omega
    · rw [List.length_cons, List.length_cons]; omega
theorem fill_size (b : Nat → Bool) (l : PL) : sizeOf' (fillL b l) = sizeOf' l + sumB b 0 (gapsL l) := by
  cases l with
  | nil => rfl
  | cons c r => exact flR_size b r 0 c
theorem fill_len (b : Nat → Bool) (l : PL) : (fillL b l).length + cntB b 0 (gapsL l) = l.length := by
  cases l with
  | nil => rfl
  | cons c r => exact flR_len b r 0 c
/-- what a stretch's cost is made of -/
theorem cost_size (cost : Int) : ∀ l : PL, costL l cost = cost * l.length + sizeOf' l
  | [] => by simp [costL, sizeOf']
  | p :: r => by
    rw [costL_cons, cost_size cost r, size_cons', List.length_cons]
    rw [Int.natCast_add, Int.mul_add]
    simp; omega
theorem akR_fl (cost : Int) (gs : Nat → Int) : ∀ (r : PL) (i : Nat) (c : Int × Int), (∀ j g, (gps c r)[j]? = some g → gs (i + j) = g) → akR cost c r = flR (fun j => decide (gs j < cost)) i c r
  | [], _, _, _ => rfl
  | p :: r, i, c, h => by
    have h0 : gs i = p.1 - c.2 := h 0 _ rfl
    have ih := fun c (hc : gps c r = gps p r) => akR_fl cost gs r (i + 1) c fun j g hg => by rw [show i + 1 + j = i + (j + 1) by omega]; exact h (j + 1) g (by rw [hc] at hg; exact hg)
    unfold akR flR
    simp only [decide_eq_true_eq, h0]
    split
    · exact ih _ (by cases r <;> rfl)
    · rw [ih p rfl]
def gapB (l : PL) (cost : Int) (j : Nat) : Bool := decide ((gapsL l).getD j 0 < cost)
theorem asks_fill (l : PL) (cost : Int) : asksL l cost = fillL (gapB l cost) l := by
  cases l with
  | nil => rfl
  | cons c r =>
    rw [asksL_cons]
    refine akR_fl cost (fun j => (gapsL (c :: r)).getD j 0) r 0 c fun j g hg => ?_
    show (gps c r).getD (0 + j) 0 = g
    rw [Nat.zero_add, List.getD_eq_getElem?_getD, hg]; rfl
/-! spreads they are -/
def gpB (b : Nat → Bool) : Nat → Int → PL → Int → Prop
  | _, _, [], _ => False
  | i, e, p :: r, k => (b i = true ∧ e ≤ k ∧ k < p.1) ∨ gpB b (i + 1) p.2 r k
theorem gpB_mono {b b' : Nat → Bool} : ∀ {r : PL} {i : Nat} {e k : Int}, (∀ j, j < r.length → b (i + j) = true → b' (i + j) = true) → gpB b i e r k → gpB b' i e r k
  | [], _, _, _, _, g => g
  | p :: r, i, e, k, h, .inl ⟨a, b, d⟩ => .inl ⟨h 0 (by simp) a, b, d⟩
  | p :: r, i, e, k, h, .inr g => .inr (gpB_mono (fun j hj hb => by
      rw [show i + 1 + j = i + (j + 1) by omega] at hb ⊢; exact h (j + 1) (by simp; omega) hb) g)
theorem flR_ok (b : Nat → Bool) : ∀ (l : PL) (i : Nat) (c : Int × Int) (lo : Int), lo ≤ c.1 → c.1 < c.2 → c.2 ≤ 100 → okF (c.2 + 1) l → okF lo (flR b i c l) ∧ ∀ k, hasD (flR b i c l) k = true ↔ hasD (c :: l) k = true ∨ gpB b i c.2 l k
  | [], i, c, lo, h1, h2, h3, _ => ⟨⟨h1, h2, h3, True.intro⟩, fun k => ⟨.inl, fun h => h.elim id fun h => h.elim⟩⟩
  | p :: r, i, c, lo, h1, h2, h3, ⟨a, b', d, e⟩ => by
    unfold flR
    split
    · next hc =>
      obtain ⟨i1, i2⟩ := flR_ok b r (i + 1) (c.1, p.2) lo h1 (by dsimp only; omega) d e
      refine ⟨i1, fun k => ?_⟩
      rw [i2, hasD_consT, hasD_consT, hasD_consT]
      show ((c.1 ≤ k ∧ k < p.2) ∨ hasD r k = true) ∨ gpB b (i + 1) p.2 r k ↔ ((c.1 ≤ k ∧ k < c.2) ∨ ((p.1 ≤ k ∧ k < p.2) ∨ hasD r k = true)) ∨ ((b i = true ∧ c.2 ≤ k ∧ k < p.1) ∨ gpB b (i + 1) p.2 r k)
      constructor
      · rintro ((h | h) | h)
        · by_cases x : k < c.2
          · exact .inl (.inl ⟨h.1, x⟩)
          · by_cases y : k < p.1
            · exact .inr (.inl ⟨hc, by omega, y⟩)
            · exact .inl (.inr (.inl ⟨by omega, h.2⟩))
        · exact .inl (.inr (.inr h))
        · exact .inr (.inr h)
      · rintro ((h | h | h) | h | h)
        · exact .inl (.inl ⟨h.1, by omega⟩)
        · exact .inl (.inl ⟨by omega, h.2⟩)
        · exact .inl (.inr h)
        · exact .inl (.inl ⟨by omega, by omega⟩)
        · exact .inr h
    · next hc =>
      obtain ⟨i1, i2⟩ := flR_ok b r (i + 1) p (c.2 + 1) a b' d e
      refine ⟨⟨h1, h2, h3, i1⟩, fun k => ?_⟩
      rw [hasD_consT, i2, hasD_consT (r := p :: r)]
      show (_ ∨ hasD (p :: r) k = true ∨ gpB b (i + 1) p.2 r k) ↔ (_ ∨ hasD (p :: r) k = true) ∨ ((b i = true ∧ c.2 ≤ k ∧ k < p.1) ∨ gpB b (i + 1) p.2 r k)
      constructor
      · rintro (h | h | h)
        · exact .inl (.inl h)
        · exact .inl (.inr h)
        · exact .inr (.inr h)
      · rintro ((h | h) | h | h)
        · exact .inl h
        · exact .inr (.inl h)
        · exact absurd h.1 hc
        · exact .inr (.inr h)
theorem fill_ok {b : Nat → Bool} {l : PL} (hl : okF 0 l) : okF 0 (fillL b l) := by
  cases l with
  | nil => exact True.intro
  | cons c r => exact (flR_ok b r 0 c 0 hl.1 hl.2.1 hl.2.2.1 hl.2.2.2).1
theorem fill_mono {b b' : Nat → Bool} {l : PL} (hl : okF 0 l) (h : ∀ j, j + 1 < l.length → b j = true → b' j = true) {k : Int} (hk : hasD (fillL b l) k = true) : hasD (fillL b' l) k = true := by
  cases l with
  | nil => exact hk
  | cons c r =>
    refine ((flR_ok b' r 0 c 0 hl.1 hl.2.1 hl.2.2.1 hl.2.2.2).2 k).mpr ?_
    refine (((flR_ok b r 0 c 0 hl.1 hl.2.1 hl.2.2.1 hl.2.2.2).2 k).mp hk).imp id (gpB_mono fun j hj => ?_)
    rw [Nat.zero_add]; exact h j (by simp; omega)
theorem fill_sub {b : Nat → Bool} {l : PL} (hl : okF 0 l) {k : Int} (hk : hasD l k = true) : hasD (fillL b l) k = true := by
  cases l with
  | nil => exact hk
  | cons c r => exact ((flR_ok b r 0 c 0 hl.1 hl.2.1 hl.2.2.1 hl.2.2.2).2 k).mpr (.inl hk)
theorem flR_no {b : Nat → Bool} : ∀ (r : PL) (i : Nat) (c : Int × Int), (∀ j, j < r.length → b (i + j) = false) → flR b i c r = c :: r
  | [], _, _, _ => rfl
  | p :: r, i, c, h => by
    have h0 := h 0 (by simp)
    rw [Nat.add_zero] at h0
    unfold flR
    rw [if_neg (by rw [h0]; decide), flR_no r (i + 1) p fun j hj => by rw [show i + 1 + j = i + (j + 1) by omega]; exact h (j + 1) (by simp; omega)]
theorem fill_no {b : Nat → Bool} {l : PL} (h : ∀ j, j + 1 < l.length → b j = false) : fillL b l = l := by
  cases l with
  | nil => rfl
  | cons c r => exact flR_no r 0 c fun j hj => by rw [Nat.zero_add]; exact h j (by simp; omega)
theorem gps_pos : ∀ {r : PL} {c : Int × Int} {lo : Int}, okF (c.2 + 1) r → ∀ g ∈ gps c r, 0 < g ∧ g < 100 - c.2
  | [], _, _, _, g, hg => by cases hg
  | p :: r, c, lo, h, g, hg => by
    have h1 := h.1; have h2 := h.2.1; have h3 := h.2.2.1
    rcases List.mem_cons.mp hg with rfl | hg
    · omega
    · have := gps_pos (lo := lo) h.2.2.2 g hg; omega
theorem gaps_pos {l : PL} (hl : okF 0 l) : ∀ g ∈ gapsL l, 0 < g ∧ g < 100 := by
  cases l with
  | nil => intro g hg; cases hg
  | cons c r =>
    intro g hg
    have h1 := hl.1; have h2 := hl.2.1
    have := gps_pos (lo := 0) hl.2.2.2 g hg; omega
end DP

set_option Elab.async false
set_option linter.all false
set_option maxRecDepth 100000
/-! asks_within -/
namespace DP
open DL PySem
open L2 hiding prD
/-- each gap, with its place -/
def gapsE (l : PL) : PL := (gapsL l).zipIdx.map fun x => (x.1, (x.2 : Int))
def keptO (l : PL) (many : Int) : List Int := ((sortP (gapsE l)).drop (if (l.length : Int) - many > 0 then (l.length : Int) - many else 0).toNat).map (·.2)
def awB (l : PL) (many : Int) (j : Nat) : Bool := !decide ((j : Int) ∈ keptO l many)
def awL (l : PL) (many : Int) : PL := fillL (awB l many) l
theorem gaps_zip : ∀ l : PL, gapsL l = (List.zipWith (fun p q : Int × Int => (p, q)) l.dropLast l.tail).map fun x => x.2.1 - x.1.2
  | [] => rfl
  | [p] => rfl
  | p :: q :: r => by
    show (q.1 - p.2) :: gapsL (q :: r) = _
    rw [gaps_zip (q :: r)]
    rfl
theorem enum_zip (f : Int × Int → Int × Int → D) : ∀ (xs : List ((Int × Int) × (Int × Int))) (j : Nat), enumD j (xs.map fun x => f x.1 x.2) = (xs.zipIdx j).map fun x => .tup [.int x.2, f x.1.1 x.1.2]
  | [], _ => rfl
  | x :: r, j => by
    show D.tup [.int j, f x.1 x.2] :: enumD (j + 1) (r.map fun x => f x.1 x.2) = _
    rw [enum_zip f r (j + 1)]; rfl
theorem zip_prs (l m : PL) : List.zipWith (fun x y => D.tup [x, y]) (prs l) (prs m) = (List.zipWith (fun p q : Int × Int => (p, q)) l m).map fun x => D.tup [prD x.1, prD x.2] := by
  rw [prs, prs, List.zipWith_map, List.map_zipWith]
theorem cut_fromI {α : Type} (xs : List α) {i : Int} (h0 : 0 ≤ i) : cutL xs (some i) none = xs.drop i.toNat := by
  obtain ⟨n, rfl⟩ := Int.eq_ofNat_of_zero_le h0
  show cutL xs (some (n : Int)) none = xs.drop n
  by_cases h : n ≤ xs.length
  · exact cut_from xs h
  · rw [List.drop_eq_nil_of_le (by omega)]
    unfold cutL
    rw [HT.sIx_nat, List.drop_eq_nil_of_le (by omega)]; simp
theorem gapsE_len (l : PL) : (gapsE l).length = l.length - 1 := by unfold gapsE; rw [List.length_map, List.length_zipIdx, gapsL_len]
theorem fill_short (b : Nat → Bool) (l : PL) : (fillL b l).length ≤ l.length := by have := fill_len b l; omega
theorem asks_within_ok {G : Gm} (hG : G.fn 20 = some ⟨2, 11, IR.asks_within⟩) (n : Nat) {l : PL} {many : Int} (hl : okF 0 l) {A : AH} {Q : QE} {E : XQ} (h : Q (spd (awL l many)) A) : callN G (n + 1) 20 [spd l, .int many] A Q E := by
  have hll := okF_len' hl
  refine callN_mk hG rfl ?_
  unfold IR.asks_within
  walk_at "wpx"
  rw [cut_init, show cutL (List.map prD l) (some 1) none = (List.map prD l).tail from cut_tail _]
  rw [show (List.map prD l).dropLast = prs l.dropLast from List.map_dropLast.symm, show (List.map prD l).tail = prs l.tail from List.map_tail.symm]
  rw [zip_prs, show enumD 0 ((List.zipWith (fun p q : Int × Int => (p, q)) l.dropLast l.tail).map fun x => D.tup [prD x.1, prD x.2]) = ((List.zipWith (fun p q : Int × Int => (p, q)) l.dropLast l.tail).zipIdx 0).map fun x => D.tup [.int x.2, .tup [prD x.1.1, prD x.1.2]] from enum_zip (fun p q => D.tup [prD p, prD q]) _ 0]
  refine ⟨DL.size_ok (by simp; omega), ?_⟩
  refine comp_of (fun x : ((Int × Int) × (Int × Int)) × Nat => D.tup [.int x.2, .tup [prD x.1.1, prD x.1.2]]) (fun x => prD (x.1.2.1 - x.1.1.2, (x.2 : Int))) True.intro (fun x hx R hr => ?_) ?_
  · simp only [prD_eq] at hr ⊢
    walk_at "wpx"
    simp only [x_ixT (atI0 _ _), x_ixT (atI1 _ _ _)]
    walk_at "wpx"
    exact hr
  have eg : ((List.zipWith (fun p q : Int × Int => (p, q)) l.dropLast l.tail).zipIdx 0).map (fun x => prD (x.1.2.1 - x.1.1.2, (x.2 : Int))) = (gapsE l).map prD := by
    unfold gapsE
    rw [gaps_zip, List.zipIdx_map, List.map_map, List.map_map]
    rfl
  rw [eg]
  refine newL_fz ?_
  rw [sort_prs (ps := gapsE l) seq_fl]
  have hsl : (sortP (gapsE l)).length = l.length - 1 := by rw [(sortP_perm _).length_eq, gapsE_len]
  walk_at "wgo"
  rw [cut_fromI _ (by split <;> omega), ← List.map_drop]
  refine ⟨DL.size_ok (by rw [List.length_map, List.length_drop]; omega), ?_⟩
  refine comp_of prD (fun p => .int p.2) True.intro (fun x hx R hr => ?_) ?_
  · rw [prD_eq]
    walk_at "wpx"
    exact hr
  walk_at "wgo"
  simp only [List.length_map]
  rw [show (List.map (fun p : Int × Int => D.int p.2) ((sortP (gapsE l)).drop (if (l.length : Int) - many > 0 then (l.length : Int) - many else 0).toNat)) = (keptO l many).map .int by unfold keptO; rw [List.map_map]; rfl]
  intro p np
  walk_at "wgo"
  refine for_inv (fun j δ B => ∃ d5 d6 d7, δ = [some (spd l), some (.int many), some (.fl ((sortP (gapsE l)).map prD)), some (.fl ((keptO l many).map .int)), some (.ref p), d5, d6, d7, none, none, none] ∧ B = up A p (.lst (prs (fillL (awB l many) (l.take j))))) _ 0 (fun i x δ B M hi hI hM => ?_) ⟨none, none, none, rfl, rfl⟩ ?_
  · obtain ⟨d5, d6, d7, rfl, rfl⟩ := hI
    rw [Nat.zero_add] at hM ⊢
    obtain ⟨y, hy, rfl⟩ := enum_at hi
    obtain ⟨q, hq, rfl⟩ := List.getElem?_map ▸ hy |> Option.map_eq_some_iff.mp
    have hil := (List.getElem?_eq_some_iff.mp hq).1
    have e1 : l.take (i + 1) = l.take i ++ [q] := by rw [List.take_add_one, hq]; rfl
    have e2 : (l.take i).length = i := by rw [List.length_take]; omega
    have hfs := fill_short (awB l many) (l.take i)
    rw [e1, fill_snoc, e2] at hM
    refine ⟨True.intro, ?_⟩
    rw [prD_eq]
    unfold IR.asks_within_b1
    walk_at "wpx"
    rw [x_truL up_same]
    generalize hacc : fillL (awB l many) (l.take i) = acc at hM hfs ⊢
    rcases nil_or_snoc acc with rfl | ⟨a0, b0, rfl⟩
    · rw [show (prs []).isEmpty = true from rfl]
      walk_at "wgo"
      rw [x_isL up_same, x_app up_same, up_up]
      refine ⟨True.intro, by decide, ?_⟩
      walk_at "wgo"
      exact hM _ _ ⟨_, _, _, rfl, rfl⟩
    · rw [prs, List.map_append, List.map_singleton, isEmpty_snoc]
      walk_at "wpx"
      rw [x_ninF]
      walk_at "wpx"
      have hi0 : i ≠ 0 := by
        rintro rfl
        rw [List.take_zero] at hacc
        have : ([] : PL) = a0 ++ [b0] := hacc
        simp at this
      have eb : (!decide (((i : Int) - 1) ∈ keptO l many)) = awB l many (i - 1) := by
        unfold awB
        rw [show ((i : Int) - 1) = ((i - 1 : Nat) : Int) by omega]
      rw [eb]
      rw [mgB_snoc] at hM
      have e0 : L2.atI (List.map prD a0 ++ [prD b0]) (-1) = some (prD b0) := atI_last _ _
      cases ec : awB l many (i - 1) with
      | true =>
        rw [ec, if_pos rfl] at hM
        walk_at "wgo"
        rw [x_ixL up_same e0, prD_eq, x_ixT (atI0 _ _)]
        rw [← prD_eq, dSub_last up_same, up_up]
        walk_at "wgo"
        refine hM _ _ ⟨_, _, _, rfl, ?_⟩
        rw [prs, List.map_append]; rfl
      | false =>
        rw [ec, if_neg (by decide)] at hM
        walk_at "wgo"
        rw [x_isL up_same, x_app up_same, up_up]
        rw [List.length_append, List.length_singleton] at hfs
        refine ⟨True.intro, size_lt (by simp; omega), ?_⟩
        walk_at "wgo"
        refine hM _ _ ⟨_, _, _, rfl, ?_⟩
        rw [prs, List.map_append, List.map_append]; rfl
  · rintro δ B ⟨d5, d6, d7, rfl, rfl⟩
    refine ⟨True.intro, ?_⟩
    rw [Nat.zero_add, enum_long, List.length_map, List.take_length]
    walk_at "wgo"
    rw [x_tupL up_same]
    exact ret_at (DL.Sub.new np) h
end DP

set_option Elab.async false
set_option linter.all false
set_option maxRecDepth 100000
/-! plain laws of asks -/
namespace DP
open DL PySem
open L2 hiding prD
theorem x_neI' {i j : Int} {A : AH} {Q : QE} (h : i = j) (k : Q (.bl false) A) : dCmp .ne (.int i) (.int j) A Q := by
  rw [x_neI, decide_eq_true h]; exact k
def sumG (f : Int → Bool) (G : PL) : Int := (G.map fun x => if f x.2 = true then x.1 else 0).sum
def cntG (f : Int → Bool) (G : PL) : Nat := (G.filter fun x => f x.2).length
theorem sum_permI {a b : List Int} (p : a.Perm b) : a.sum = b.sum := by
  induction p with
  | nil => rfl
  | cons x _ ih => rw [List.sum_cons, List.sum_cons, ih]
  | swap x y l => simp only [List.sum_cons]; omega
  | trans _ _ h1 h2 => rw [h1, h2]
theorem sumG_perm {f : Int → Bool} {G H : PL} (p : G.Perm H) : sumG f G = sumG f H := by
  unfold sumG
  exact sum_permI (p.map _)
theorem cntG_perm {f : Int → Bool} {G H : PL} (p : G.Perm H) : cntG f G = cntG f H := (p.filter _).length_eq
theorem sumB_G (b : Nat → Bool) : ∀ (gs : List Int) (i : Nat), sumB b i gs = sumG (fun a => b a.toNat) ((gs.zipIdx i).map fun x => (x.1, (x.2 : Int)))
  | [], _ => rfl
  | g :: r, i => by
    unfold sumB
    rw [sumB_G b r (i + 1)]
    show _ = sumG _ ((g, (i : Int)) :: (r.zipIdx (i + 1)).map fun x => (x.1, (x.2 : Int)))
    unfold sumG
    rw [List.map_cons, List.sum_cons]
    rfl
theorem cntB_G (b : Nat → Bool) : ∀ (gs : List Int) (i : Nat), cntB b i gs = cntG (fun a => b a.toNat) ((gs.zipIdx i).map fun x => (x.1, (x.2 : Int)))
  | [], _ => rfl
  | g :: r, i => by
    unfold cntB
    rw [cntB_G b r (i + 1)]
    show _ = cntG _ ((g, (i : Int)) :: (r.zipIdx (i + 1)).map fun x => (x.1, (x.2 : Int)))
    unfold cntG
    rw [List.filter_cons]
    by_cases e : b i = true
    · rw [if_pos e, if_pos (show b ((i : Int)).toNat = true from e), List.length_cons]; omega
    · rw [if_neg e, if_neg (show ¬ b ((i : Int)).toNat = true from e)]; omega
theorem gapsE_fst (l : PL) : (gapsE l).map (·.1) = gapsL l := by
  unfold gapsE
  rw [List.map_map]
  show (gapsL l).zipIdx.map (fun x => x.1) = _
  exact List.zipIdx_map_fst 0 _
theorem gapsE_snd (l : PL) : (gapsE l).map (·.2) = (List.range (l.length - 1)).map fun i : Nat => (i : Int) := by
  unfold gapsE
  rw [List.map_map, ← gapsL_len]
  have : ((gapsL l).zipIdx.map fun x => (x.2 : Int)) = ((gapsL l).zipIdx.map (·.2)).map fun i : Nat => (i : Int) := by rw [List.map_map]; rfl
  show ((gapsL l).zipIdx.map fun x => (x.2 : Int)) = _
  rw [this, List.zipIdx_map_snd, List.range_eq_range']
theorem places (l : PL) : ((sortP (gapsE l)).map (·.2)).Perm ((List.range (l.length - 1)).map fun i : Nat => (i : Int)) := by
  rw [← gapsE_snd]; exact (sortP_perm _).map _
theorem places_nd (l : PL) : ((sortP (gapsE l)).map (·.2)).Nodup := by
  rw [(places l).nodup_iff]
  have h : (List.range (l.length - 1)).Nodup := List.nodup_range
  refine List.Pairwise.map _ (fun a b hab => ?_) h
  omega
theorem place_mem {l : PL} {j : Nat} : (j : Int) ∈ (sortP (gapsE l)).map (·.2) ↔ j + 1 < l.length := by
  rw [(places l).mem_iff, List.mem_map]
  constructor
  · rintro ⟨i, hi, e⟩
    have := List.mem_range.mp hi; omega
  · intro h; exact ⟨j, List.mem_range.mpr (by omega), rfl⟩
def awD (l : PL) (many : Int) : Nat := (if (l.length : Int) - many > 0 then (l.length : Int) - many else 0).toNat
theorem kept_eq (l : PL) (many : Int) : keptO l many = ((sortP (gapsE l)).map (·.2)).drop (awD l many) := by
  unfold keptO awD; rw [List.map_drop]
theorem kept_mono {l : PL} {m m' : Int} (h : m ≤ m') {x : Int} (hx : x ∈ keptO l m) : x ∈ keptO l m' := by
  rw [kept_eq] at hx ⊢
  have : awD l m' ≤ awD l m := by unfold awD; split <;> split <;> omega
  have e : ((sortP (gapsE l)).map (·.2)).drop (awD l m) = (((sortP (gapsE l)).map (·.2)).drop (awD l m')).drop (awD l m - awD l m') := by
    rw [List.drop_drop]; congr 1; omega
  rw [e] at hx
  exact List.mem_of_mem_drop hx
theorem awB_mono {l : PL} {m m' : Int} (h : m ≤ m') {j : Nat} (hj : awB l m' j = true) : awB l m j = true := by
  unfold awB at hj ⊢
  rw [Bool.not_eq_true', decide_eq_false_iff_not] at hj ⊢
  exact fun h2 => hj (kept_mono h h2)
theorem awB_take {l : PL} {m : Int} {x : Int × Int} (hx : x ∈ (sortP (gapsE l)).take (awD l m)) : awB l m x.2.toNat = true := by
  have hall : x.2 ∈ (sortP (gapsE l)).map (·.2) := List.mem_map.mpr ⟨x, List.mem_of_mem_take hx, rfl⟩
  have h0 : 0 ≤ x.2 := by
    obtain ⟨i, _, e⟩ := List.mem_map.mp ((places l).mem_iff.mp hall); omega
  unfold awB
  rw [show ((x.2.toNat : Nat) : Int) = x.2 by omega, Bool.not_eq_true', decide_eq_false_iff_not, kept_eq]
  have nd := places_nd l
  rw [← List.take_append_drop (awD l m) ((sortP (gapsE l)).map (·.2))] at nd
  have h1 : x.2 ∈ ((sortP (gapsE l)).map (·.2)).take (awD l m) := by rw [← List.map_take]; exact List.mem_map.mpr ⟨x, hx, rfl⟩
  exact fun h2 => (List.nodup_append.mp nd).2.2 _ h1 _ h2 rfl
theorem awB_drop {l : PL} {m : Int} {x : Int × Int} (hx : x ∈ (sortP (gapsE l)).drop (awD l m)) : awB l m x.2.toNat = false := by
  have hall : x.2 ∈ (sortP (gapsE l)).map (·.2) := List.mem_map.mpr ⟨x, List.mem_of_mem_drop hx, rfl⟩
  have h0 : 0 ≤ x.2 := by
    obtain ⟨i, _, e⟩ := List.mem_map.mp ((places l).mem_iff.mp hall); omega
  unfold awB
  rw [show ((x.2.toNat : Nat) : Int) = x.2 by omega, Bool.not_eq_false', decide_eq_true_eq, kept_eq, ← List.map_drop]
  exact List.mem_map.mpr ⟨x, hx, rfl⟩
theorem filter_all {α : Type} {f : α → Bool} {l : List α} (h : ∀ x ∈ l, f x = true) : l.filter f = l := List.filter_eq_self.mpr h
theorem filter_non {α : Type} {f : α → Bool} {l : List α} (h : ∀ x ∈ l, f x = false) : l.filter f = [] := List.filter_eq_nil_iff.mpr fun x hx => by rw [h x hx]; decide
theorem aw_cnt (l : PL) (m : Int) : cntB (awB l m) 0 (gapsL l) = min (awD l m) (l.length - 1) := by
  rw [cntB_G, show ((gapsL l).zipIdx 0).map (fun x => (x.1, (x.2 : Int))) = gapsE l from rfl, cntG_perm (sortP_perm (gapsE l)).symm]
  unfold cntG
  rw [← List.take_append_drop (awD l m) (sortP (gapsE l)), List.filter_append, filter_all fun x hx => awB_take hx, filter_non fun x hx => awB_drop hx, List.append_nil, List.length_take, (sortP_perm _).length_eq, gapsE_len]
theorem aw_len {l : PL} {m : Int} (hm : 1 ≤ m) : ((awL l m).length : Int) = if (l.length : Int) < m then (l.length : Int) else m := by
  have h1 := fill_len (awB l m) l
  rw [aw_cnt] at h1
  unfold awL
  have : awD l m = (if (l.length : Int) - m > 0 then (l.length : Int) - m else 0).toNat := rfl
  split at this <;> split <;> omega
theorem sumB_mono {b b' : Nat → Bool} : ∀ {gs : List Int} {i : Nat}, (∀ g ∈ gs, 0 ≤ g) → (∀ j, j < gs.length → b (i + j) = true → b' (i + j) = true) → sumB b i gs ≤ sumB b' i gs
  | [], _, _, _ => Int.le_refl _
  | g :: r, i, hg, h => by
    have h0 := h 0 (by simp)
    have hg0 := hg g List.mem_cons_self
    have ih := sumB_mono (b := b) (b' := b') (gs := r) (i := i + 1) (fun x hx => hg x (List.mem_cons_of_mem _ hx)) fun j hj hb => by
      rw [show i + 1 + j = i + (j + 1) by omega] at hb ⊢; exact h (j + 1) (by simp; omega) hb
    unfold sumB
    rw [Nat.add_zero] at h0
    split
    · next e => rw [if_pos (h0 e)]; omega
    · split <;> omega
theorem cntB_mono {b b' : Nat → Bool} : ∀ {gs : List Int} {i : Nat}, (∀ j, j < gs.length → b (i + j) = true → b' (i + j) = true) → cntB b i gs ≤ cntB b' i gs
  | [], _, _ => Nat.le_refl _
  | g :: r, i, h => by
    have h0 := h 0 (by simp)
    have ih := cntB_mono (b := b) (b' := b') (gs := r) (i := i + 1) fun j hj hb => by
      rw [show i + 1 + j = i + (j + 1) by omega] at hb ⊢; exact h (j + 1) (by simp; omega) hb
    unfold cntB
    rw [Nat.add_zero] at h0
    split
    · next e => rw [if_pos (h0 e)]; omega
    · split <;> omega
theorem cntB_all {b : Nat → Bool} : ∀ {gs : List Int} {i : Nat}, (∀ j, j < gs.length → b (i + j) = true) → cntB b i gs = gs.length
  | [], _, _ => rfl
  | g :: r, i, h => by
    have h0 := h 0 (by simp)
    have ih := cntB_all (b := b) (gs := r) (i := i + 1) fun j hj => by
      rw [show i + 1 + j = i + (j + 1) by omega]; exact h (j + 1) (by simp; omega)
    unfold cntB
    rw [Nat.add_zero] at h0
    rw [if_pos h0, ih, List.length_cons]; omega
theorem gapB_at {l : PL} {cost : Int} {j : Nat} {g : Int} (h : (gapsL l)[j]? = some g) : gapB l cost j = decide (g < cost) := by
  unfold gapB; rw [List.getD_eq_getElem?_getD, h]; rfl
theorem gapB_mono {l : PL} {c c' : Int} (h : c ≤ c') {j : Nat} (hj : gapB l c j = true) : gapB l c' j = true := by
  unfold gapB at *; rw [decide_eq_true_eq] at *; omega
theorem gap_at {l : PL} {j : Nat} (h : j + 1 < l.length) : ∃ g, (gapsL l)[j]? = some g ∧ g ∈ gapsL l := by
  have : j < (gapsL l).length := by rw [gapsL_len]; omega
  exact ⟨_, List.getElem?_eq_getElem this, List.getElem_mem this⟩
theorem asks_one {l : PL} (hl : okF 0 l) {c : Int} (hc : c ≤ 1) : asksL l c = l := by
  rw [asks_fill]
  refine fill_no fun j hj => ?_
  obtain ⟨g, h1, h2⟩ := gap_at hj
  rw [gapB_at h1, decide_eq_false (by have := gaps_pos hl g h2; omega)]
theorem gapB_all {l : PL} (hl : okF 0 l) {j : Nat} (hj : j + 1 < l.length) : gapB l 100 j = true := by
  obtain ⟨g, h1, h2⟩ := gap_at hj
  rw [gapB_at h1, decide_eq_true (gaps_pos hl g h2).2]
theorem asks_all {l : PL} (hl : okF 0 l) : (asksL l 100).length ≤ 1 := by
  rw [asks_fill]
  have h1 := fill_len (gapB l 100) l
  rw [cntB_all fun j hj => by rw [Nat.zero_add]; exact gapB_all hl (by rw [gapsL_len] at hj; omega), gapsL_len] at h1
  omega
theorem aw_one {l : PL} (hl : okF 0 l) : awL l 1 = asksL l 100 := by
  rw [asks_fill]
  unfold awL
  refine fill_congr fun j hj => ?_
  rw [gapB_all hl hj]
  unfold awB
  rw [Bool.not_eq_true', decide_eq_false_iff_not, kept_eq, List.drop_eq_nil_of_le]
  · simp
  · rw [List.length_map, (sortP_perm _).length_eq, gapsE_len]
    unfold awD; split <;> omega
theorem aw_all {l : PL} {m : Int} (h : (l.length : Int) ≤ m) : awL l m = l := by
  refine fill_no fun j hj => ?_
  unfold awB
  rw [Bool.not_eq_false', decide_eq_true_eq, kept_eq, show awD l m = 0 by unfold awD; split <;> omega, List.drop_zero]
  exact place_mem.mpr hj
theorem asks_len_mono {l : PL} {c c' : Int} (h : c ≤ c') : (asksL l c').length ≤ (asksL l c).length := by
  have h1 := fill_len (gapB l c) l
  have h2 := fill_len (gapB l c') l
  rw [asks_fill, asks_fill]
  have := cntB_mono (b := gapB l c) (b' := gapB l c') (gs := gapsL l) (i := 0) fun j _ => gapB_mono h
  omega
theorem asks_size_mono {l : PL} (hl : okF 0 l) {c c' : Int} (h : c ≤ c') : sizeOf' (asksL l c) ≤ sizeOf' (asksL l c') := by
  rw [asks_fill, asks_fill, fill_size, fill_size]
  have := sumB_mono (b := gapB l c) (b' := gapB l c') (gs := gapsL l) (i := 0) (fun g hg => by have := gaps_pos hl g hg; omega) fun j _ => gapB_mono h
  omega
theorem asks_size_ge {l : PL} (hl : okF 0 l) (c : Int) : sizeOf' l ≤ sizeOf' (asksL l c) := by
  rw [asks_fill, fill_size]
  have := sumB_mono (b := fun _ => false) (b' := gapB l c) (gs := gapsL l) (i := 0) (fun g hg => by have := gaps_pos hl g hg; omega) fun j _ h => by cases h
  have e : ∀ (gs : List Int) (i : Nat), sumB (fun _ => false) i gs = 0 := by
    intro gs
    induction gs with
    | nil => intro _; rfl
    | cons g r ih => intro i; unfold sumB; rw [ih]; rfl
  rw [e] at this
  omega
theorem aw_size_mono {l : PL} (hl : okF 0 l) {m m' : Int} (h : m ≤ m') : sizeOf' (awL l m') ≤ sizeOf' (awL l m) := by
  unfold awL
  rw [fill_size, fill_size]
  have := sumB_mono (b := awB l m') (b' := awB l m) (gs := gapsL l) (i := 0) (fun g hg => by have := gaps_pos hl g hg; omega) fun j _ => awB_mono h
  omega
theorem best_terms (cost : Int) (a b : Nat → Bool) : ∀ (gs : List Int) (i : Nat), (∀ j g, gs[j]? = some g → a (i + j) = decide (g < cost)) → sumB a i gs - cost * cntB a i gs ≤ sumB b i gs - cost * cntB b i gs
  | [], _, _ => Int.le_refl _
  | g :: r, i, h => by
    have h0 := h 0 g rfl
    have ih := best_terms cost a b r (i + 1) fun j x hx => by rw [show i + 1 + j = i + (j + 1) by omega]; exact h (j + 1) x hx
    unfold sumB cntB
    rw [Nat.add_zero] at h0
    rw [h0]
    rw [Int.natCast_add, Int.natCast_add, Int.mul_add, Int.mul_add]
    generalize cost * (cntB a (i + 1) r : Int) = p at ih ⊢
    generalize cost * (cntB b (i + 1) r : Int) = q at ih ⊢
    by_cases e : g < cost
    · rw [decide_eq_true e]
      simp only [if_true]
      split <;> simp <;> omega
    · rw [decide_eq_false e]
      simp only [Bool.false_eq_true, if_false]
      split <;> simp <;> omega
theorem fill_cost (b : Nat → Bool) (l : PL) (cost : Int) : costL (fillL b l) cost = cost * l.length + sizeOf' l + (sumB b 0 (gapsL l) - cost * cntB b 0 (gapsL l)) := by
  have h := fill_len b l
  rw [cost_size, fill_size, ← h, Int.natCast_add, Int.mul_add]
  omega
theorem asks_best (b : Nat → Bool) (l : PL) (cost : Int) : costL (asksL l cost) cost ≤ costL (fillL b l) cost := by
  rw [asks_fill, fill_cost, fill_cost]
  have := best_terms cost (gapB l cost) b (gapsL l) 0 fun j g hg => by rw [Nat.zero_add]; exact gapB_at hg
  omega
theorem akR_gaps (cost : Int) : ∀ (r : PL) (c : Int × Int), ∃ e t, akR cost c r = (c.1, e) :: t ∧ ∀ g ∈ gps (c.1, e) t, cost ≤ g
  | [], c => ⟨c.2, [], rfl, fun g hg => by cases hg⟩
  | p :: r, c => by
    unfold akR
    split
    · exact akR_gaps cost r (c.1, p.2)
    · next h =>
      obtain ⟨e, t, h1, h2⟩ := akR_gaps cost r p
      refine ⟨c.2, (p.1, e) :: t, by rw [h1], fun g hg => ?_⟩
      rcases List.mem_cons.mp hg with rfl | hg
      · show cost ≤ p.1 - c.2; omega
      · exact h2 g hg
theorem asks_gaps {l : PL} {cost : Int} : ∀ g ∈ gapsL (asksL l cost), cost ≤ g := by
  cases l with
  | nil => intro g hg; cases hg
  | cons c r =>
    rw [asksL_cons]
    obtain ⟨e, t, h1, h2⟩ := akR_gaps cost r c
    rw [h1]; exact h2
theorem akR_last (cost : Int) : ∀ (r : PL) (c : Int × Int), (akR cost c r).getLast?.map (·.2) = (c :: r).getLast?.map (·.2)
  | [], c => rfl
  | p :: r, c => by
    unfold akR
    have e : ∀ x : Int × Int, (c :: p :: r).getLast? = (p :: r).getLast? := fun _ => by rw [List.getLast?_cons_cons]
    rw [e c]
    split
    · rw [akR_last cost r (c.1, p.2)]
      cases r with
      | nil => rfl
      | cons q r => rw [List.getLast?_cons_cons, List.getLast?_cons_cons]
    · obtain ⟨e2, t, h1, _⟩ := akR_gaps cost r p
      rw [h1, List.getLast?_cons_cons, ← h1]
      exact akR_last cost r p
end DP

set_option Elab.async false
set_option linter.all false
set_option maxRecDepth 100000
set_option maxHeartbeats 1000000
/-! the same of the same, texts too; all that is asked of spreads -/
namespace DP
open DL PySem
open L2 hiding prD
mutual
def smS : Nat → D → Prop
  | _, .non => True
  | _, .bl _ => True
  | _, .int _ => True
  | _, .str z => PyData.strOk z = true
  | n + 1, .tup ds => ds.length ≤ 100000 ∧ smSs n ds
  | _, _ => False
def smSs : Nat → List D → Prop
  | _, [] => True
  | n, d :: ds => smS n d ∧ smSs n ds
end
theorem smSs_iff {n : Nat} {ds : List D} : smSs n ds ↔ ∀ d ∈ ds, smS n d := by
  induction ds with
  | nil => simp [smSs]
  | cons d r ih => simp [smSs, ih]
theorem smS_of : ∀ (n : Nat) (d : D), smp n d → smS n d
  | n, .non, _ => by cases n <;> exact True.intro
  | n, .bl b, _ => by cases n <;> exact True.intro
  | n, .int i, _ => by cases n <;> exact True.intro
  | n + 1, .tup ds, h => ⟨h.1, smSs_iff.mpr fun d hd => smS_of n d (smps_iff.mp h.2 d hd)⟩
  | 0, .tup ds, h => by cases h
  | n, .str _, h => by cases n <;> cases h
  | n, .rol _, h => by cases n <;> cases h
  | n, .ref _, h => by cases n <;> cases h
  | n, .fl _, h => by cases n <;> cases h
  | n, .rod _ _, h => by cases n <;> cases h
  | n, .ptp _, h => by cases n <;> cases h
theorem x_eqSS {x : Str} {A : AH} {Q : QE} (hx : PyData.strOk x = true) : dCmp .eq (.str x) (.str x) A Q = Q (.bl true) A := by
  show (match pd A 6 (.str x), pd A 6 (.str x) with | some p, some q => Q (.bl (PyData.eqv p q)) A | _, _ => False) = _
  simp only [pd, hx, if_true]
  rw [eqvS_same]
theorem sameS {G : Gm} (hG : G.fn 101 = some ⟨2, 4, IR.law_same⟩) : ∀ (n : Nat) (d : D) {A : AH} {Q : QE} {E : XQ}, smS n d → Q (.bl true) A → callN G (n + 1) 101 [d, d] A Q E
  | n, .non, A, Q, E, hs, h => same_refl hG n .non (by cases n <;> exact True.intro) h
  | n, .bl b, A, Q, E, hs, h => same_refl hG n (.bl b) smp_bl h
  | n, .int i, A, Q, E, hs, h => same_refl hG n (.int i) smp_int h
  | n, .str z, A, Q, E, hs, h => by
    have hz : PyData.strOk z = true := by cases n <;> exact hs
    refine callN_mk hG rfl ?_
    unfold IR.law_same
    walk_at "wgo"
    simp only [isD]
    walk_at "wgo"
    try simp only [isD]
    walk_at "wgo"
    try simp only [isD]
    walk_at "wgo"
    try simp only [isD]
    walk_at "wgo"
    rw [x_eqSS hz]
    walk_at "wgo"
    exact ret_here h
  | n + 1, .tup ds, A, Q, E, hs, h => by
    obtain ⟨hz, hs⟩ := hs
    have hs := smSs_iff.mp hs
    refine callN_mk hG rfl ?_
    unfold IR.law_same
    walk_at "wgo"
    simp only [isD]
    walk_at "wgo"
    try simp only [isD]
    walk_at "wgo"
    try simp only [isD]
    walk_at "wgo"
    rw [show List.zipWith (fun x y => D.tup [x, y]) ds ds = ds.map fun x => D.tup [x, x] by rw [List.zipWith_self]]
    refine ⟨by rw [List.length_map]; exact Nat.le_trans hz (by decide), ?_⟩
    refine comp_of (fun x : D => D.tup [x, x]) (fun _ => .bl true) True.intro (fun x hx R hr => ?_) ?_
    · walk_at "wpx"
      exact sameS hG n x (hs x hx) hr
    · intro p np
      rw [show ds.map (fun _ => D.bl true) = (ds.map fun _ => true).map D.bl by rw [List.map_map]; rfl, x_all up_same]
      refine ret_at (DL.Sub.new np) ?_
      rw [show (ds.map fun _ => true).all id = true by rw [List.all_map]; exact List.all_eq_true.mpr fun _ _ => rfl]
      exact h
  | 0, .tup ds, _, _, _, hs, _ => by cases hs
  | n, .rol ds, _, _, _, hs, _ => by cases n <;> cases hs
  | n, .ref ds, _, _, _, hs, _ => by cases n <;> cases hs
  | n, .fl ds, _, _, _, hs, _ => by cases n <;> cases hs
  | n, .rod _ _, _, _, _, hs, _ => by cases n <;> cases hs
  | n, .ptp _, _, _, _, hs, _ => by cases n <;> cases hs
end DP

set_option Elab.async false
set_option linter.all false
set_option maxRecDepth 100000
set_option maxHeartbeats 1000000
/-! any text read -/
namespace DP
open DL PySem
open L2 hiding prD
def digT (z : Str) : Bool := z.cps.toList.all fun c => decide (c ∈ ("0123456789" : Str).cps.toList)
def numC (w : Str) : Option Int := if decide ((1 : Int) ≤ (w.length : Int)) && decide ((w.length : Int) ≤ 3) && digT w then intText? w else none
def stC (w : Str) : Option (Int × Int) := match Txt.split w "-" with
  | [a, b] => match numC a, numC b with | some i, some j => some (i, j) | _, _ => none
  | _ => none
def partsC (z : Str) : Option PL := if (z == "") = true then some [] else allsO stC (Txt.split z ",")
def readC (z : Str) : Option PL := match partsC z with
  | some l => if ((l.all stB && adjB l) && (sayT l == z)) = true then some l else none
  | none => none
theorem dig_mem {c : Nat} : c ∈ ("0123456789" : Str).cps.toList ↔ 48 ≤ c ∧ c ≤ 57 := by
  constructor
  · intro h
    have : ∀ c ∈ ("0123456789" : Str).cps.toList, 48 ≤ c ∧ c ≤ 57 := by decide +kernel
    exact this c h
  · intro h
    have : c = 48 ∨ c = 49 ∨ c = 50 ∨ c = 51 ∨ c = 52 ∨ c = 53 ∨ c = 54 ∨ c = 55 ∨ c = 56 ∨ c = 57 := by omega
    rcases this with rfl | rfl | rfl | rfl | rfl | rfl | rfl | rfl | rfl | rfl <;> decide +kernel
theorem digT_iff {z : Str} : digT z = true ↔ ∀ c ∈ TL.tl z, 48 ≤ c ∧ c ≤ 57 := by
  unfold digT
  rw [List.all_eq_true]
  exact forall_congr' fun c => forall_congr' fun _ => by rw [decide_eq_true_eq, dig_mem]
theorem intText_dig {z : Str} (h : digT z = true) (h1 : 1 ≤ z.length) (h2 : z.length ≤ 3) : ∃ i, intText? z = some i := by
  have hd := digT_iff.mp h
  have hne : z.cps.toList ≠ [] := fun e => by
    have : z.length = 0 := by rw [TL.len_tl]; show (TL.tl z).length = 0; rw [show TL.tl z = [] from e]; rfl
    omega
  exact ⟨_, intText_digits (x := z) (fun c hc => hd c hc) hne (by omega)⟩
theorem spl1_len {s : Nat} : ∀ (l acc : List Nat), (TL.spl [s] 0 acc l).length ≤ l.length + 1
  | [], acc => by rw [TL.spl_nil]; simp
  | c :: r, acc => by
    cases e : TL.pre [s] (c :: r) with
    | true => rw [TL.spl_hit e]; have := spl1_len (s := s) r []; simp only [List.length_cons, List.length_nil, Nat.zero_add, Nat.sub_self] at this ⊢; omega
    | false => rw [TL.spl_miss e]; have := spl1_len (s := s) r (acc ++ [c]); simp only [List.length_cons]; omega
theorem spl1_mem {s : Nat} : ∀ (l acc : List Nat), ∀ p ∈ TL.spl [s] 0 acc l, p.length ≤ acc.length + l.length ∧ ∀ c ∈ p, c ∈ acc ∨ c ∈ l
  | [], acc, p, hp => by rw [TL.spl_nil] at hp; rw [List.mem_singleton.mp hp]; exact ⟨by simp, fun c hc => .inl hc⟩
  | c :: r, acc, p, hp => by
    cases e : TL.pre [s] (c :: r) with
    | true =>
      rw [TL.spl_hit e] at hp
      rcases List.mem_cons.mp hp with rfl | hp
      · exact ⟨by simp, fun c hc => .inl hc⟩
      · obtain ⟨h1, h2⟩ := spl1_mem r [] p hp
        refine ⟨by simp only [List.length_nil, List.length_cons] at h1 ⊢; omega, fun d hd => .inr ?_⟩
        rcases h2 d hd with h | h
        · cases h
        · exact List.mem_cons_of_mem _ h
    | false =>
      rw [TL.spl_miss e] at hp
      obtain ⟨h1, h2⟩ := spl1_mem r (acc ++ [c]) p hp
      refine ⟨by simp only [List.length_append, List.length_cons, List.length_nil] at h1 ⊢; omega, fun d hd => ?_⟩
      rcases h2 d hd with h | h
      · rcases List.mem_append.mp h with h | h
        · exact .inl h
        · exact .inr (by rw [List.mem_singleton.mp h]; exact List.mem_cons_self)
      · exact .inr (List.mem_cons_of_mem _ h)
theorem split1 {x y : Str} {s : Nat} (ey : TL.tl y = [s]) (hk : y.cps.all (· < 256) = true) : (Txt.split x y).map TL.tl = TL.spl [s] 0 [] (TL.tl x) := by
  have := TL.split_spl x y (by rw [ey]; simp) (TL.kind_ok hk)
  rw [ey] at this; exact this
theorem split_len {x y : Str} {s : Nat} (ey : TL.tl y = [s]) (hk : y.cps.all (· < 256) = true) : (Txt.split x y).length ≤ x.length + 1 := by
  have := congrArg List.length (split1 (x := x) ey hk)
  rw [List.length_map] at this
  rw [this, TL.len_tl]; exact spl1_len _ _
theorem split_mem {x y : Str} {s : Nat} (ey : TL.tl y = [s]) (hk : y.cps.all (· < 256) = true) {w : Str} (hw : w ∈ Txt.split x y) : w.length ≤ x.length ∧ ∀ c ∈ TL.tl w, c ∈ TL.tl x := by
  have h : TL.tl w ∈ TL.spl [s] 0 [] (TL.tl x) := by rw [← split1 ey hk]; exact List.mem_map.mpr ⟨w, hw, rfl⟩
  obtain ⟨h1, h2⟩ := spl1_mem _ _ _ h
  rw [List.length_nil, Nat.zero_add] at h1
  refine ⟨by rw [TL.len_tl, TL.len_tl]; exact h1, fun c hc => ?_⟩
  rcases h2 c hc with h | h
  · cases h
  · exact h
theorem com_tl : TL.tl ("," : Str) = [44] := by decide +kernel
theorem com_k : ("," : Str).cps.all (· < 256) = true := by decide +kernel
theorem das_tl : TL.tl ("-" : Str) = [45] := by decide +kernel
theorem das_k : ("-" : Str).cps.all (· < 256) = true := by decide +kernel
/-! what is read -/
theorem readC_some {z : Str} {l : PL} (h : readC z = some l) : okF 0 l ∧ sayT l = z := by
  unfold readC at h
  split at h
  · next m e =>
    split at h
    · next c =>
      cases h
      rw [Bool.and_eq_true] at c
      exact ⟨spreadD_ok.mp (by unfold spreadD spd; simp only [alls_prs]; exact c.1), eq_of_beq c.2⟩
    · cases h
  · cases h
theorem numC_num {i : Int} (h0 : 0 ≤ i) (h1 : i ≤ 100) : numC (numT i) = some i := by
  have hl := numT_len h0 h1
  have hd : digT (numT i) = true := digT_iff.mpr (numT_dig h0)
  unfold numC
  rw [if_pos (by rw [hd, decide_eq_true (by omega), decide_eq_true (by omega)]; rfl)]
  exact numT_int h0 h1
theorem stC_say {p : Int × Int} (h : okSt p) : stC (sayP p) = some p := by
  have h0 : 0 ≤ p.1 := h.1
  have h1 : p.1 < p.2 := h.2.1
  have h2 : p.2 ≤ 100 := h.2.2
  unfold stC
  rw [split_sayP h]
  dsimp only
  rw [numC_num h0 (by omega), numC_num (by omega) h2]
theorem say_nil {l : PL} : (sayT l == "") = true ↔ l = [] := by
  constructor
  · intro h
    have h := eq_of_beq h
    cases l with
    | nil => rfl
    | cons p r =>
      have := sayT_ne (l := p :: r) (by simp)
      rw [h] at this
      exact absurd this (by decide)
  · rintro rfl; rfl
theorem partsC_say {l : PL} (hl : ∀ p ∈ l, okSt p) : partsC (sayT l) = some l := by
  unfold partsC
  by_cases e : l = []
  · rw [if_pos (say_nil.mpr e), e]
  · rw [if_neg (fun h => e (say_nil.mp h)), split_sayT hl e]
    have : ∀ m : PL, (∀ p ∈ m, okSt p) → allsO stC (m.map sayP) = some m := fun m => by
      induction m with
      | nil => intro _; rfl
      | cons p r ih =>
        intro hm
        rw [List.map_cons]
        unfold allsO
        rw [stC_say (hm p List.mem_cons_self), ih fun q hq => hm q (List.mem_cons_of_mem _ hq)]
    exact this l hl
theorem readC_say {l : PL} (hl : okF 0 l) : readC (sayT l) = some l := by
  unfold readC
  rw [partsC_say fun p hp => okF_st hl (Int.le_refl _) p hp]
  dsimp only
  have h1 : (l.all stB && adjB l) = true := by
    have := spreadD_ok.mpr hl
    unfold spreadD spd at this
    simp only [alls_prs] at this
    exact this
  rw [h1, if_pos (by rw [beq_self_eq_true]; rfl)]
theorem readC_iff {z : Str} {l : PL} : readC z = some l ↔ okF 0 l ∧ sayT l = z := ⟨readC_some, fun ⟨h, e⟩ => by rw [← e]; exact readC_say h⟩
section
variable {G : Gm} {n : Nat} {A : AH} {Q : QE} {E : XQ} {l : PL} {w z : Str}
theorem number_in_any (h58 : G.fn 58 = some ⟨1, 2, IR.number_in⟩) (hz : w.length ≤ 10000) (q : match numC w with | some i => Q (.int i) A | none => E 2 A) : callN G (n + 1) 58 [.str w] A Q E := by
  have hz' : w.length ≤ sizeLine := Nat.le_trans hz (by decide)
  refine callN_mk h58 rfl ?_
  unfold numC at q
  unfold IR.number_in
  walk_at "wpx"
  refine ⟨hz', ?_⟩
  walk_at "wpx"
  cases e1 : decide ((1 : Int) ≤ (w.length : Int)) with
  | false =>
    rw [e1] at q
    walk_at "wgo"
    exact ⟨_, DL.Sub.refl _, q⟩
  | true =>
    walk_at "wpx"
    cases e2 : decide ((w.length : Int) ≤ 3) with
    | false =>
      rw [e1, e2] at q
      walk_at "wgo"
      exact ⟨_, DL.Sub.refl _, q⟩
    | true =>
      walk_at "wpx"
      have l1 := of_decide_eq_true e1
      have l2 := of_decide_eq_true e2
      refine ⟨DL.size_ok (by rw [List.length_map]; show w.cps.toList.length ≤ _; rw [Array.length_toList]; exact Nat.le_trans hz (by decide)), ?_⟩
      refine comp_of (fun c : Nat => D.str ⟨#[c]⟩) (fun c => .bl (decide (c ∈ ("0123456789" : Str).cps.toList))) True.intro (fun c hc R r => ?_) ?_
      · rw [g_nm]
        walk_at "wpx"
        exact r
      refine newL_fz ?_
      walk_at "wpx"
      rw [show w.cps.toList.map (fun c => D.bl (decide (c ∈ ("0123456789" : Str).cps.toList))) = (w.cps.toList.map fun c => decide (c ∈ ("0123456789" : Str).cps.toList)).map .bl by rw [List.map_map]; rfl, x_allF]
      rw [show (w.cps.toList.map fun c => decide (c ∈ ("0123456789" : Str).cps.toList)).all id = digT w by rw [List.all_map]; rfl]
      cases e3 : digT w with
      | false =>
        rw [e1, e2, e3] at q
        walk_at "wgo"
        exact ⟨_, DL.Sub.refl _, q⟩
      | true =>
        obtain ⟨i, hi⟩ := intText_dig e3 (by omega) (by omega)
        rw [e1, e2, e3, if_pos (by rfl), hi] at q
        walk_at "wgo"
        refine x_ints hi (by omega) ?_
        exact ret_here q
theorem stretch_in_any (h58 : G.fn 58 = some ⟨1, 2, IR.number_in⟩) (h59 : G.fn 59 = some ⟨1, 2, IR.stretch_in⟩) (hz : w.length ≤ 10000) (q : match stC w with | some p => Q (prD p) A | none => E 2 A) : callN G (n + 2) 59 [.str w] A Q E := by
  have hm : ∀ u ∈ Txt.split w "-", u.length ≤ 10000 := fun u hu => Nat.le_trans (split_mem das_tl das_k hu).1 hz
  refine callN_mk h59 rfl ?_
  unfold stC at q
  unfold IR.stretch_in
  walk_at "wpx"
  refine ⟨trivial, ?_⟩
  refine x_splitF (by decide) (Nat.le_trans (Nat.add_le_add_right hz 2) (by decide)) ?_
  generalize Txt.split w "-" = es at q hm
  refine newL_fz ?_
  walk_at "wgo"
  have no : es.length ≠ 2 → (match es with | [a, b] => (match numC a, numC b with | some i, some j => some (i, j) | _, _ => none) | _ => (none : Option (Int × Int))) = none := fun h => by
    match es, h with
    | [], _ => rfl
    | [_], _ => rfl
    | [_, _], h => exact absurd rfl h
    | _ :: _ :: _ :: _, _ => rfl
  by_cases c : es.length = 2
  · match es, c, q, hm with
    | [a, b], _, q, hm =>
      dsimp only at q
      rw [show decide (((List.map D.str [a, b]).length : Int) = (2 : Int)) = true from rfl]
      walk_at "wgo"
      rw [x_ixF (atI0 _ _)]
      refine number_in_any (n := n) h58 (hm a (by simp)) ?_
      cases e1 : numC a with
      | none =>
        rw [e1] at q
        exact ⟨_, DL.Sub.refl _, q⟩
      | some i =>
        dsimp only
        walk_at "wpx"
        rw [x_ixF (atI1 _ _ _)]
        refine number_in_any (n := n) h58 (hm b (by simp)) ?_
        rw [e1] at q
        cases e2 : numC b with
        | none =>
          rw [e2] at q
          exact ⟨_, DL.Sub.refl _, q⟩
        | some j =>
          rw [e2] at q
          dsimp only at q ⊢
          walk_at "wgo"
          exact ret_here q
  · rw [no c] at q
    rw [List.length_map, decide_eq_false (by omega)]
    walk_at "wgo"
    exact ⟨_, DL.Sub.refl _, q⟩
/-- any text read -/
theorem read_any (g1 : G.fn 1 = some ⟨3, 3, IR.is_whole⟩) (g2 : G.fn 2 = some ⟨1, 1, IR.is_stretch⟩) (g3 : G.fn 3 = some ⟨1, 3, IR.is_spread⟩) (h57 : G.fn 57 = some ⟨1, 3, IR.written⟩) (h58 : G.fn 58 = some ⟨1, 2, IR.number_in⟩) (h59 : G.fn 59 = some ⟨1, 2, IR.stretch_in⟩) (h60 : G.fn 60 = some ⟨1, 3, IR.read⟩) (hz : z.length ≤ 10000) (hs : PyData.strOk z = true) (q : match readC z with | some l => Q (spd l) A | none => E 2 A) : callN G (n + 4) 60 [.str z] A Q E := by
  refine callN_mk h60 rfl ?_
  unfold readC at q
  have tail : ∀ (l : PL), l.length ≤ 20000 → partsC z = some l → later (callN G (n + 3)) G (IR.read.drop 2) (endP Q E) [some (.str z), some (spd l), none] A := by
    intro l hl el
    rw [el] at q
    dsimp only at q
    refine later_go ?_
    unfold IR.read
    simp only [List.drop_succ_cons, List.drop_zero]
    walk_at "wpx"
    refine is_spread_any g1 g2 g3 n _ ⟨isG_tup, fun ds e d hd => ?_⟩ (fun ds e => ?_) ?_
    · cases e; obtain ⟨p, _, rfl⟩ := List.mem_map.mp hd; exact isG2_pr.1
    · cases e; exact ⟨by rw [List.length_map]; omega, fun d hd => by obtain ⟨p, _, rfl⟩ := List.mem_map.mp hd; exact isG2_pr⟩
    have ed : spreadD (spd l) = (l.all stB && adjB l) := by unfold spreadD spd; simp only [alls_prs]
    cases e1 : spreadD (spd l) with
    | false =>
      rw [← ed, e1] at q
      walk_at "wgo"
      exact ⟨_, DL.Sub.refl _, q⟩
    | true =>
      have hok := spreadD_ok.mp e1
      have hst : ∀ p ∈ l, okSt p := fun p hp => okF_st hok (Int.le_refl _) p hp
      rw [← ed, e1, Bool.true_and] at q
      walk_at "wpx"
      refine written_ok (n := n + 2) h57 hst (by have := okF_len' hok; omega) ?_
      rw [x_neSt (sayT_ok hst) hs, eqvS]
      cases e2 : sayT l == z with
      | false =>
        rw [e2] at q
        walk_at "wgo"
        exact ⟨_, DL.Sub.refl _, q⟩
      | true =>
        rw [e2, if_pos rfl] at q
        walk_at "wgo"
        exact ret_here q
  generalize hrs : IR.read.drop 2 = rs at tail
  unfold IR.read at hrs ⊢
  simp only [List.drop_succ_cons, List.drop_zero] at hrs
  rw [hrs]
  walk_at "wpx"
  refine later_go ?_
  walk_at "wpx"
  rw [x_neSt hs (by decide +kernel), eqvS]
  cases e : z == "" with
  | true =>
    walk_at "wpx"
    exact tail [] (by simp) (by unfold partsC; rw [if_pos e])
  | false =>
    walk_at "wgo"
    refine ⟨trivial, ?_⟩
    refine x_splitF (by decide) (Nat.le_trans (show _ ≤ 10002 by omega) (by decide)) ?_
    have hm : ∀ u ∈ Txt.split z ",", u.length ≤ 10000 := fun u hu => Nat.le_trans (split_mem com_tl com_k hu).1 hz
    have hlen := split_len (x := z) com_tl com_k
    have ep : partsC z = allsO stC (Txt.split z ",") := by unfold partsC; rw [e]; rfl
    rw [ep] at q tail
    generalize Txt.split z "," = ws at q tail hm hlen
    refine newL_fz ?_
    walk_at "wpx"
    refine ⟨DL.size_ok (by rw [List.length_map]; omega), ?_⟩
    refine compx_of (i := 2) (fun u => D.str u) (fun u => (stC u).map prD) True.intro (fun u hu R r => ?_) ?_
    · rw [g_nm]
      walk_at "wpx"
      refine stretch_in_any (n := n + 1) h58 h59 (hm u hu) ?_
      cases e : stC u with
      | none => rw [e] at r; exact r
      | some p => rw [e] at r; exact r
    have em : ∀ us : List Str, allsO (fun u => (stC u).map prD) us = (allsO stC us).map (·.map prD) := fun us => by
      induction us with
      | nil => rfl
      | cons u r ih =>
        unfold allsO
        rw [ih]
        cases stC u <;> cases allsO stC r <;> rfl
    rw [em]
    have el : ∀ (us : List Str) (m : PL), allsO stC us = some m → m.length = us.length := fun us => by
      induction us with
      | nil => intro m h; cases h; rfl
      | cons u r ih =>
        intro m h
        unfold allsO at h
        cases e1 : stC u with
        | none => rw [e1] at h; cases h
        | some p =>
          cases e2 : allsO stC r with
          | none => rw [e1, e2] at h; cases h
          | some k => rw [e1, e2] at h; cases h; rw [List.length_cons, List.length_cons, ih k e2]
    cases ea : allsO stC ws with
    | none =>
      rw [ea] at q
      exact ⟨_, DL.Sub.refl _, q⟩
    | some m =>
      have := el ws m ea
      dsimp only [Option.map_some]
      refine newL_fz ?_
      walk_at "wgo"
      exact tail m (by omega) ea
end
end DP

set_option Elab.async false
set_option linter.all false
set_option maxRecDepth 100000
set_option maxHeartbeats 4000000
/-! the law law_k13_whole_spreads_as_texts: its table, and what ties it to the row -/
namespace Lk13
open DL PySem PySem.Spec PyProof.Rows
open L2 hiding prD
def topS (i : Nat) : Stmt := PySem.Challenge.pw_keptranges_k13_whole_spreads_as_texts.main.body.getD i (.Pass ⟨0, 0, 0, 0⟩)
def ir_law_or : List IS := [(.iff (.val (.isn false (.var 0))) [(.ret (.cst (.str "refused")))] []),
  (.ret (.var 0))]
def ir_law_told : List IS := [(.set 1 (.cst .non)),
  (.tryx [(.set 1 (.call 60 [(.var 0)]))] [2] [.set 1 (.cst (.str "refused"))]),
  (.ret (.var 1))]
def ir_law_say_b1 : List IS := [(.set 1 (.bin .add (.bin .add (.bin .add (.bin .add (.var 1) (.bi .smul [(.cst (.str ",")), (.bi .int1 [(.cmp .ne (.var 1) (.cst (.str "")))])])) (.bi .str1 [(.var 2)])) (.cst (.str "-"))) (.bi .str1 [(.var 3)])))]
def ir_law_say : List IS := [(.set 1 (.cst (.str ""))),
  (.for .seq [(.var 0)] (.tp [(.nm 2), (.nm 3)]) ir_law_say_b1),
  (.ret (.var 1))]
def ir_law_read_b1 : List IS := [(.set 4 (.fz (.bm .split (.var 3) [(.cst (.str "-"))]))),
  (.iff (.or (.val (.cmp .ne (.bi .len [(.var 4)]) (.cst (.int 2)))) (.val (.fz (.comp .seq [(.var 4)] [7] (.nm 7) (.or (.not (.val (.chn .le .le (.cst (.int 1)) (.bi .len [(.var 7)]) (.cst (.int 3))))) (.val (.cmp .ne (.bm .strip (.var 7) [(.cst (.str "0123456789"))]) (.cst (.str ""))))) (.cst (.int 1)))))) [(.ret (.cst .non))] []),
  (.par [5, 6] [(.bi .ints [(.ix (.var 4) (.cst (.int 0)))]), (.bi .ints [(.ix (.var 4) (.cst (.int 1)))])]),
  (.iff (.or (.val (.cmp .le (.var 5) (.var 2))) (.not (.val (.chn .lt .le (.var 5) (.var 6) (.cst (.int 100)))))) [(.ret (.cst .non))] []),
  (.set 1 (.bin .add (.var 1) (.tup [(.tup [(.var 5), (.var 6)])]))),
  (.set 2 (.var 6))]
def ir_law_read : List IS := [(.set 1 (.tup [])),
  (.set 2 (.neg (.cst (.int 1)))),
  (.for .seq [(.ite (.val (.cmp .ne (.var 0) (.cst (.str "")))) (.fz (.bm .split (.var 0) [(.cst (.str ","))])) (.fz (.lst [])))] (.nm 3) ir_law_read_b1),
  (.ret (.ite (.val (.cmp .eq (.call 137 [(.var 1)]) (.var 0))) (.var 1) (.cst .non)))]
def ir_law_b1 : List IS := [(.iff (.not (.val (.call 101 [(.call 136 [(.var 11)]), (.call 135 [(.call 138 [(.var 11)])])]))) [(.ret (.cst (.bl false)))] [])]
def ir_law_b2 : List IS := [(.set 3 (.call 107 [(.var 0), (.var 1), (.cst (.int 8))])),
  (.set 4 (.call 137 [(.var 3)])),
  (.iff (.or (.not (.val (.call 101 [(.call 57 [(.var 3)]), (.var 4)]))) (.not (.val (.call 101 [(.call 136 [(.var 4)]), (.var 3)])))) [(.ret (.cst (.bl false)))] []),
  (.set 5 (.call 102 [(.var 0), (.var 1), (.bin .add (.bi .len [(.var 4)]) (.cst (.int 1)))])),
  (.set 6 (.call 103 [(.var 0), (.var 1), (.cst (.str "0123456789-, +_.aZ~!x"))])),
  (.set 7 (.lst [(.bin .add (.bin .add (.cut (.var 4) none (some (.var 5))) (.var 6)) (.cut (.var 4) (some (.var 5)) none)), (.bin .add (.cut (.var 4) none (some (.var 5))) (.cut (.var 4) (some (.bin .add (.var 5) (.cst (.int 1)))) none)), (.bin .add (.var 4) (.cst (.str ",")))])),
  (.expr (.bm .append (.var 7) [(.bin .add (.bin .add (.cut (.var 4) none (some (.var 5))) (.var 6)) (.cut (.var 4) (some (.bin .add (.var 5) (.cst (.int 1)))) none))])),
  (.set 8 (.fz (.bm .split (.var 4) [(.cst (.str ","))]))),
  (.set 9 (.call 102 [(.var 0), (.var 1), (.bin .add (.bi .len [(.var 8)]) (.cst (.int 1)))])),
  (.set 10 (.lst [(.fz (.bin .add (.fz (.cut (.var 8) none (some (.var 9)))) (.fz (.cut (.var 8) (some (.bin .add (.var 9) (.cst (.int 1)))) none)))), (.fz (.bin .add (.var 8) (.fz (.cut (.var 8) none (some (.cst (.int 1))))))), (.fz (.rev (.var 8)))])),
  (.expr (.bm .append (.var 10) [(.fz (.bin .add (.fz (.cut (.var 8) none (some (.var 9)))) (.fz (.lst [(.bin .add (.cst (.str "0")) (.cut (.var 4) none (some (.cst (.int 3)))))]))))])),
  (.set 7 (.bin .add (.fz (.bin .add (.var 7) (.fz (.comp .seq [(.var 10)] [12] (.nm 12) .yes (.bm .join (.cst (.str ",")) [(.var 12)]))))) (.fz (.lst [(.bin .add (.cst (.str ",")) (.var 4)), (.bin .add (.cst (.str " ")) (.var 4)), (.bin .add (.var 4) (.cst (.str " "))), (.cst (.str "0-100"))])))),
  (.set 7 (.bin .add (.var 7) (.fz (.lst [(.cst (.str "0-101")), (.cst (.str "5-5")), (.cst (.str "1-2,2-3")), (.cst (.str "1-2,3-4")), (.cst (.str "00-1")), (.cst (.str "0-01")), (.cst (.str "-")), (.cst (.str "1-")), (.cst (.str "-1")), (.cst (.str "1--2"))])))),
  (.for .seq [(.fz (.bin .add (.var 7) (.fz (.lst [(.cst (.str "0-1,")), (.cst (.str "99-100")), (.cst (.str "100-101"))]))))] (.nm 11) ir_law_b1)]
def ir_law : List IS := [(.set 1 (.lst [])),
  (.for .rng [(.cst (.int 8))] (.nm 2) ir_law_b2),
  (.ret (.cst (.bl true)))]
def tbl : List (Nat × FnD) := [(1, ⟨3, 3, IR.is_whole⟩), (2, ⟨1, 1, IR.is_stretch⟩), (3, ⟨1, 3, IR.is_spread⟩), (57, ⟨1, 3, IR.written⟩), (58, ⟨1, 2, IR.number_in⟩), (59, ⟨1, 2, IR.stretch_in⟩), (60, ⟨1, 3, IR.read⟩), (101, ⟨2, 4, IR.law_same⟩), (135, ⟨1, 1, ir_law_or⟩), (102, ⟨3, 6, IR.law_draw_k01⟩), (103, ⟨3, 3, IR.law_pick⟩), (104, ⟨3, 8, IR.law_stretches⟩), (105, ⟨1, 5, IR.law_keys_k01⟩), (106, ⟨1, 3, IR.law_form⟩), (107, ⟨3, 3, IR.law_spread_k01⟩), (136, ⟨1, 2, ir_law_told⟩), (137, ⟨1, 4, ir_law_say⟩), (138, ⟨1, 8, ir_law_read⟩), (112, ⟨1, 13, ir_law⟩)]
def clt : List (Nat × ClD) := []
def gm : Gm := ⟨fun f => tbl.lookup f, fun c => clt.lookup c⟩
abbrev s_is_whole : Stmt := topS 5
abbrev n_is_whole : List Str := ["thing", "low", "high"]
theorem sc_is_whole : FnScope n_is_whole ["thing", "low", "high"] (defScope s_is_whole) := ⟨rfl, rfl, rfl, by decide +kernel, rfl, by decide +kernel, by decide +kernel⟩
abbrev s_is_stretch : Stmt := topS 6
abbrev n_is_stretch : List Str := ["thing"]
theorem sc_is_stretch : FnScope n_is_stretch ["thing"] (defScope s_is_stretch) := ⟨rfl, rfl, rfl, by decide +kernel, rfl, by decide +kernel, by decide +kernel⟩
abbrev s_is_spread : Stmt := topS 7
abbrev n_is_spread : List Str := ["thing", "one", "two"]
theorem sc_is_spread : FnScope n_is_spread ["thing"] (defScope s_is_spread) := ⟨rfl, rfl, rfl, by decide +kernel, rfl, by decide +kernel, by decide +kernel⟩
abbrev s_written : Stmt := topS 10
abbrev n_written : List Str := ["spread", "first", "last"]
theorem sc_written : FnScope n_written ["spread"] (defScope s_written) := ⟨rfl, rfl, rfl, by decide +kernel, rfl, by decide +kernel, by decide +kernel⟩
abbrev s_number_in : Stmt := topS 11
abbrev n_number_in : List Str := ["word", "sign"]
theorem sc_number_in : FnScope n_number_in ["word"] (defScope s_number_in) := ⟨rfl, rfl, rfl, by decide +kernel, rfl, by decide +kernel, by decide +kernel⟩
abbrev s_stretch_in : Stmt := topS 12
abbrev n_stretch_in : List Str := ["part", "ends"]
theorem sc_stretch_in : FnScope n_stretch_in ["part"] (defScope s_stretch_in) := ⟨rfl, rfl, rfl, by decide +kernel, rfl, by decide +kernel, by decide +kernel⟩
abbrev s_read : Stmt := topS 13
abbrev n_read : List Str := ["text", "spread", "part"]
theorem sc_read : FnScope n_read ["text"] (defScope s_read) := ⟨rfl, rfl, rfl, by decide +kernel, rfl, by decide +kernel, by decide +kernel⟩
abbrev s_law_same : Stmt := topS 15
abbrev n_law_same : List Str := ["_law_got", "_law_due", "_law_one", "_law_other"]
theorem sc_law_same : FnScope n_law_same ["_law_got", "_law_due"] (defScope s_law_same) := ⟨rfl, rfl, rfl, by decide +kernel, rfl, by decide +kernel, by decide +kernel⟩
abbrev s_law_or : Stmt := topS 16
abbrev n_law_or : List Str := ["_law_due"]
theorem sc_law_or : FnScope n_law_or ["_law_due"] (defScope s_law_or) := ⟨rfl, rfl, rfl, by decide +kernel, rfl, by decide +kernel, by decide +kernel⟩
abbrev s_law_draw : Stmt := topS 17
abbrev n_law_draw : List Str := ["_law_script", "_law_town", "_law_many", "_law_k", "_law_cell", "_law_number"]
theorem sc_law_draw : FnScope n_law_draw ["_law_script", "_law_town", "_law_many"] (defScope s_law_draw) := ⟨rfl, rfl, rfl, by decide +kernel, rfl, by decide +kernel, by decide +kernel⟩
abbrev s_law_pick : Stmt := topS 18
abbrev n_law_pick : List Str := ["_law_script", "_law_town", "_law_some"]
theorem sc_law_pick : FnScope n_law_pick ["_law_script", "_law_town", "_law_some"] (defScope s_law_pick) := ⟨rfl, rfl, rfl, by decide +kernel, rfl, by decide +kernel, by decide +kernel⟩
abbrev s_law_stretches : Stmt := topS 19
abbrev n_law_stretches : List Str := ["_law_script", "_law_town", "_law_most", "_law_got", "_law_near", "_law_k", "_law_first", "_law_long"]
theorem sc_law_stretches : FnScope n_law_stretches ["_law_script", "_law_town", "_law_most"] (defScope s_law_stretches) := ⟨rfl, rfl, rfl, by decide +kernel, rfl, by decide +kernel, by decide +kernel⟩
abbrev s_law_keys : Stmt := topS 20
abbrev n_law_keys : List Str := ["_law_stretches_here", "_law_got", "_law_first", "_law_last", "_law_key"]
theorem sc_law_keys : FnScope n_law_keys ["_law_stretches_here"] (defScope s_law_keys) := ⟨rfl, rfl, rfl, by decide +kernel, rfl, by decide +kernel, by decide +kernel⟩
abbrev s_law_form : Stmt := topS 21
abbrev n_law_form : List Str := ["_law_keys_here", "_law_got", "_law_key"]
theorem sc_law_form : FnScope n_law_form ["_law_keys_here"] (defScope s_law_form) := ⟨rfl, rfl, rfl, by decide +kernel, rfl, by decide +kernel, by decide +kernel⟩
abbrev s_law_spread : Stmt := topS 22
abbrev n_law_spread : List Str := ["_law_script", "_law_town", "_law_most"]
theorem sc_law_spread : FnScope n_law_spread ["_law_script", "_law_town", "_law_most"] (defScope s_law_spread) := ⟨rfl, rfl, rfl, by decide +kernel, rfl, by decide +kernel, by decide +kernel⟩
abbrev s_law_told : Stmt := topS 24
abbrev n_law_told : List Str := ["_law_text", "_law_got"]
theorem sc_law_told : FnScope n_law_told ["_law_text"] (defScope s_law_told) := ⟨rfl, rfl, rfl, by decide +kernel, rfl, by decide +kernel, by decide +kernel⟩
abbrev s_law_say : Stmt := topS 25
abbrev n_law_say : List Str := ["_law_spread_here", "_law_text", "_law_first", "_law_last"]
theorem sc_law_say : FnScope n_law_say ["_law_spread_here"] (defScope s_law_say) := ⟨rfl, rfl, rfl, by decide +kernel, rfl, by decide +kernel, by decide +kernel⟩
abbrev s_law_read : Stmt := topS 26
abbrev n_law_read : List Str := ["_law_text", "_law_got", "_law_behind", "_law_part", "_law_ends", "_law_first", "_law_last", "_law_end"]
theorem sc_law_read : FnScope n_law_read ["_law_text"] (defScope s_law_read) := ⟨rfl, rfl, rfl, by decide +kernel, rfl, by decide +kernel, by decide +kernel⟩
abbrev s_law : Stmt := topS 27
abbrev n_law : List Str := ["_law_script", "_law_town", "_law_k", "_law_spread_here", "_law_text", "_law_at", "_law_sign", "_law_texts", "_law_pieces", "_law_place", "_law_some", "_law_thing", "_law_one"]
theorem sc_law : FnScope n_law ["_law_script"] (defScope s_law) := ⟨rfl, rfl, rfl, by decide +kernel, rfl, by decide +kernel, by decide +kernel⟩
structure Txt (L : Lk) (mg : Str → Option Value) : Prop where
  tt : True
  z_all : mg "all" = none
  z_bool : mg "bool" = none
  z_int : mg "int" = none
  z_isinstance : mg "isinstance" = none
  z_len : mg "len" = none
  z_min : mg "min" = none
  z_range : mg "range" = none
  z_str : mg "str" = none
  z_tuple : mg "tuple" = none
  z_zip : mg "zip" = none
  c_FIGURES : ∃ t, mg "FIGURES" = some (.str "0123456789" t)
  c_KEYS : ∃ t, mg "KEYS" = some (.int 100 t)
  g_is_whole : mg "is_whole" = some (.ref (L.FA 1))
  g_is_stretch : mg "is_stretch" = some (.ref (L.FA 2))
  g_is_spread : mg "is_spread" = some (.ref (L.FA 3))
  g_written : mg "written" = some (.ref (L.FA 57))
  g_number_in : mg "number_in" = some (.ref (L.FA 58))
  g_stretch_in : mg "stretch_in" = some (.ref (L.FA 59))
  g_read : mg "read" = some (.ref (L.FA 60))
  g_law_same : mg "_law_same" = some (.ref (L.FA 101))
  g_law_or : mg "_law_or" = some (.ref (L.FA 135))
  g_law_draw : mg "_law_draw" = some (.ref (L.FA 102))
  g_law_pick : mg "_law_pick" = some (.ref (L.FA 103))
  g_law_stretches : mg "_law_stretches" = some (.ref (L.FA 104))
  g_law_keys : mg "_law_keys" = some (.ref (L.FA 105))
  g_law_form : mg "_law_form" = some (.ref (L.FA 106))
  g_law_spread : mg "_law_spread" = some (.ref (L.FA 107))
  g_law_told : mg "_law_told" = some (.ref (L.FA 136))
  g_law_say : mg "_law_say" = some (.ref (L.FA 137))
  g_law_read : mg "_law_read" = some (.ref (L.FA 138))
  e_NoText : ExT L mg "NoText" 2
  t_NoText : ExN L mg "NoText" [2]
section
variable {L : Lk} {n : Nat} {P : Program} {w : World} {mg : Str → Option Value} {base : Heap} {cdv : Value} {A : Around} {outer : List Env} {s : Shared} {H : Hp} {E : XK}
theorem bd_is_whole (T : Txt L mg) : DSs L gm n (cxOf (L2.CX P w) P w L.K mg base n_is_whole "is_whole" (defScope s_is_whole) (L.FA 1) cdv A outer s H E) (defBody s_is_whole) IR.is_whole :=
  (dss_cons (ds_ret (de_and (isi_ (k := .int) T.z_isinstance T.z_int v_) (de_and (de_not (isi_ (k := .bool) T.z_isinstance T.z_bool v_)) (de_one (chnE k_le k_le v_ v_ v_)))))
  dss_nil)
theorem bd_is_stretch (T : Txt L mg) : DSs L gm n (cxOf (L2.CX P w) P w L.K mg base n_is_stretch "is_stretch" (defScope s_is_stretch) (L.FA 2) cdv A outer s H E) (defBody s_is_stretch) IR.is_stretch :=
  (dss_cons (ds_if (dt_w (dw_or (dt_not (tv (isi_ (k := .tuple) T.z_isinstance T.z_tuple v_))) (dw_or (neT (bi_ b_len T.z_len (a_ v_ da_nil)) de_int) (dw_or1 (dt_not (tv (f_ T.g_is_whole (a_ (ix_ v_ de_int) (a_ de_int (a_ (o_sub (c_gint T.c_KEYS) de_int) da_nil)))))))))) (dss_cons (ds_ret de_bl)
  dss_nil) dss_nil)
  (dss_cons (ds_ret (f_ T.g_is_whole (a_ (ix_ v_ de_int) (a_ (o_add (ix_ v_ de_int) de_int) (a_ (c_gint T.c_KEYS) da_nil)))))
  dss_nil))
theorem bd_is_spread (T : Txt L mg) : DSs L gm n (cxOf (L2.CX P w) P w L.K mg base n_is_spread "is_spread" (defScope s_is_spread) (L.FA 3) cdv A outer s H E) (defBody s_is_spread) IR.is_spread :=
  (dss_cons (ds_if (dt_w (dw_or (dt_not (tv (isi_ (k := .tuple) T.z_isinstance T.z_tuple v_))) (dw_or1 (dt_not (tv (bi_ b_all T.z_all (a_ (lc_ [("one", 1)] (di_seq v_) (fun _ _ _ _ _ => g_) (fun _ _ _ _ _ => dts_nil) (fun _ _ _ _ _ => (f_ T.g_is_stretch (a_ v_ da_nil))) (blkOk_by (N := n_is_spread) (sc := defScope s_is_spread) (by decide +kernel))) da_nil))))))) (dss_cons (ds_ret de_bl)
  dss_nil) dss_nil)
  (dss_cons (ds_ret (bi_ b_all T.z_all (a_ (lc_ [("one", 1), ("two", 2)] (iz_ T.z_zip (de_cut v_ do_none (do_some (de_neg de_int))) (de_cut v_ (do_some de_int) do_none)) (fun _ _ _ _ _ => (gt_ (gs_ g_ (gs_ g_ dgs_nil)))) (fun _ _ _ _ _ => dts_nil) (fun _ _ _ _ _ => (cmpE k_lt (ix_ v_ de_int) (ix_ v_ de_int))) (blkOk_by (N := n_is_spread) (sc := defScope s_is_spread) (by decide +kernel))) da_nil)))
  dss_nil))
theorem bd_written (T : Txt L mg) : DSs L gm n (cxOf (L2.CX P w) P w L.K mg base n_written "written" (defScope s_written) (L.FA 57) cdv A outer s H E) (defBody s_written) IR.written :=
  (dss_cons (ds_ret (m_join de_str (de_fz (lc_ [("first", 1), ("last", 2)] (di_seq v_) (fun _ _ _ _ _ => (gt_ (gs_ g_ (gs_ g_ dgs_nil)))) (fun _ _ _ _ _ => dts_nil) (fun _ _ _ _ _ => (de_fstr (.fmt v_ (.sgn (.fmt v_ .nil))))) (blkOk_by (N := n_written) (sc := defScope s_written) (by decide +kernel))))))
  dss_nil)
theorem bd_number_in (T : Txt L mg) : DSs L gm n (cxOf (L2.CX P w) P w L.K mg base n_number_in "number_in" (defScope s_number_in) (L.FA 58) cdv A outer s H E) (defBody s_number_in) IR.number_in :=
  (dss_cons (ds_if (dt_w (dw_or (dt_not (chnT k_le k_le de_int (bi_ b_len T.z_len (a_ v_ da_nil)) de_int)) (dw_or1 (dt_not (tv (bi_ b_all T.z_all (a_ (de_fz (lc_ [("sign", 1)] (di_sgn v_) (fun _ _ _ _ _ => g_) (fun _ _ _ _ _ => dts_nil) (fun _ _ _ _ _ => (sinE v_ (c_gstr T.c_FIGURES))) (blkOk_by (N := n_number_in) (sc := defScope s_number_in) (by decide +kernel)))) da_nil))))))) (dss_cons (rais_ T.e_NoText)
  dss_nil) dss_nil)
  (dss_cons (ds_ret (bi_ b_ints T.z_int (a_ v_ da_nil)))
  dss_nil))
theorem bd_stretch_in (T : Txt L mg) : DSs L gm n (cxOf (L2.CX P w) P w L.K mg base n_stretch_in "stretch_in" (defScope s_stretch_in) (L.FA 59) cdv A outer s H E) (defBody s_stretch_in) IR.stretch_in :=
  (dss_cons (s_set (de_fz (m_split v_ de_str)))
  (dss_cons (ds_if (neT (bi_ b_len T.z_len (a_ v_ da_nil)) de_int) (dss_cons (rais_ T.e_NoText)
  dss_nil) dss_nil)
  (dss_cons (ds_ret (de_tup (a_ (f_ T.g_number_in (a_ (ix_ v_ de_int) da_nil)) (a_ (f_ T.g_number_in (a_ (ix_ v_ de_int) da_nil)) da_nil))))
  dss_nil)))
theorem bd_read (T : Txt L mg) : DSs L gm n (cxOf (L2.CX P w) P w L.K mg base n_read "read" (defScope s_read) (L.FA 60) cdv A outer s H E) (defBody s_read) IR.read :=
  (dss_cons (s_set (de_tup da_nil))
  (dss_cons (ds_if (neT v_ de_str) (dss_cons (s_set (bi_ b_tuple T.z_tuple (a_ (de_fz (lcx_ [("part", 2)] (di_seq (de_fz (m_split v_ de_str))) (fun _ _ _ _ _ _ => g_) (fun _ _ _ _ _ _ => dts_nil) (fun _ _ _ _ _ _ => (f_ T.g_stretch_in (a_ v_ da_nil))) (blkOk_by (N := n_read) (sc := defScope s_read) (by decide +kernel)))) da_nil)))
  dss_nil) dss_nil)
  (dss_cons (ds_if (dt_w (dw_or (dt_not (tv (f_ T.g_is_spread (a_ v_ da_nil)))) (dw_or1 (neT (f_ T.g_written (a_ v_ da_nil)) v_)))) (dss_cons (rais_ T.e_NoText)
  dss_nil) dss_nil)
  (dss_cons (ds_ret v_)
  dss_nil))))
theorem bd_law_same (T : Txt L mg) : DSs L gm n (cxOf (L2.CX P w) P w L.K mg base n_law_same "_law_same" (defScope s_law_same) (L.FA 101) cdv A outer s H E) (defBody s_law_same) IR.law_same :=
  (dss_cons (ds_if (dt_isn v_) (dss_cons (ds_ret (de_isn v_))
  dss_nil) dss_nil)
  (dss_cons (ds_if (tv (isi_ (k := .bool) T.z_isinstance T.z_bool v_)) (dss_cons (ds_ret (de_and (isi_ (k := .bool) T.z_isinstance T.z_bool v_) (de_one (eqE v_ v_))))
  dss_nil) dss_nil)
  (dss_cons (ds_if (tv (isi_ (k := .tuple) T.z_isinstance T.z_tuple v_)) (dss_cons (ds_if (dt_w (dw_or (dt_not (tv (isi_ (k := .tuple) T.z_isinstance T.z_tuple v_))) (dw_or1 (neT (bi_ b_len T.z_len (a_ v_ da_nil)) (bi_ b_len T.z_len (a_ v_ da_nil)))))) (dss_cons (ds_ret de_bl)
  dss_nil) dss_nil)
  (dss_cons (ds_ret (bi_ b_all T.z_all (a_ (lc_ [("_law_one", 2), ("_law_other", 3)] (iz_ T.z_zip v_ v_) (fun _ _ _ _ _ => (gt_ (gs_ g_ (gs_ g_ dgs_nil)))) (fun _ _ _ _ _ => dts_nil) (fun _ _ _ _ _ => (f_ T.g_law_same (a_ v_ (a_ v_ da_nil)))) (blkOk_by (N := n_law_same) (sc := defScope s_law_same) (by decide +kernel))) da_nil)))
  dss_nil)) dss_nil)
  (dss_cons (ds_if (tv (isi_ (k := .str) T.z_isinstance T.z_str v_)) (dss_cons (ds_ret (de_and (isi_ (k := .str) T.z_isinstance T.z_str v_) (de_one (eqE v_ v_))))
  dss_nil) dss_nil)
  (dss_cons (ds_ret (de_and (isi_ (k := .int) T.z_isinstance T.z_int v_) (de_and (de_not (isi_ (k := .bool) T.z_isinstance T.z_bool v_)) (de_one (eqE v_ v_)))))
  dss_nil)))))
theorem bd_law_or (T : Txt L mg) : DSs L gm n (cxOf (L2.CX P w) P w L.K mg base n_law_or "_law_or" (defScope s_law_or) (L.FA 135) cdv A outer s H E) (defBody s_law_or) ir_law_or :=
  (dss_cons (ds_if (dt_isn v_) (dss_cons (ds_ret de_str)
  dss_nil) dss_nil)
  (dss_cons (ds_ret v_)
  dss_nil))
theorem bd_law_draw (T : Txt L mg) : DSs L gm n (cxOf (L2.CX P w) P w L.K mg base n_law_draw "_law_draw" (defScope s_law_draw) (L.FA 102) cdv A outer s H E) (defBody s_law_draw) IR.law_draw_k01 :=
  (dss_cons (s_expr (bm_ m_append v_ (a_ de_int da_nil)))
  (dss_cons (s_set (bi_ b_len T.z_len (a_ v_ da_nil)))
  (dss_cons (s_set de_int)
  (dss_cons (ds_if (tv v_) (dss_cons (s_set (ix_ v_ (o_mod v_ (bi_ b_len T.z_len (a_ v_ da_nil)))))
  dss_nil) dss_nil)
  (dss_cons (s_set (o_mod (o_add v_ (o_mul de_int v_)) de_int))
  (dss_cons (s_set (o_mod (o_mul (o_mod (o_mul v_ v_) de_int) de_int) de_int))
  (dss_cons (ds_ret (o_mod (o_fdiv v_ de_int) v_))
  dss_nil)))))))
theorem bd_law_pick (T : Txt L mg) : DSs L gm n (cxOf (L2.CX P w) P w L.K mg base n_law_pick "_law_pick" (defScope s_law_pick) (L.FA 103) cdv A outer s H E) (defBody s_law_pick) IR.law_pick :=
  (dss_cons (ds_ret (ix_ v_ (f_ T.g_law_draw (a_ v_ (a_ v_ (a_ (bi_ b_len T.z_len (a_ v_ da_nil)) da_nil))))))
  dss_nil)
theorem bd_law_stretches (T : Txt L mg) : DSs L gm n (cxOf (L2.CX P w) P w L.K mg base n_law_stretches "_law_stretches" (defScope s_law_stretches) (L.FA 104) cdv A outer s H E) (defBody s_law_stretches) IR.law_stretches :=
  (dss_cons (s_set (de_tup da_nil))
  (dss_cons (s_set (eqE (f_ T.g_law_draw (a_ v_ (a_ v_ (a_ de_int da_nil)))) de_int))
  (dss_cons (s_for (ir1_ T.z_range (f_ T.g_law_draw (a_ v_ (a_ v_ (a_ (o_add v_ de_int) da_nil))))) g_ (dss_cons (s_set (f_ T.g_law_draw (a_ v_ (a_ v_ (a_ (ix_ (de_lst (a_ de_int (a_ de_int da_nil))) (bi_ b_int T.z_int (a_ v_ da_nil))) da_nil)))))
  (dss_cons (s_set (o_add de_int (f_ T.g_law_draw (a_ v_ (a_ v_ (a_ (f_ T.g_law_pick (a_ v_ (a_ v_ (a_ (de_lst (a_ de_int (a_ de_int (a_ de_int (a_ de_int da_nil))))) da_nil)))) da_nil))))))
  (dss_cons (s_set (o_add v_ (de_tup (a_ (de_tup (a_ v_ (a_ (bi_ b_min2 T.z_min (a_ de_int (a_ (o_add v_ v_) da_nil))) da_nil))) da_nil))))
  dss_nil))))
  (dss_cons (ds_ret v_)
  dss_nil))))
theorem bd_law_keys (T : Txt L mg) : DSs L gm n (cxOf (L2.CX P w) P w L.K mg base n_law_keys "_law_keys" (defScope s_law_keys) (L.FA 105) cdv A outer s H E) (defBody s_law_keys) IR.law_keys_k01 :=
  (dss_cons (s_set (o_mul (de_lst (a_ de_bl da_nil)) de_int))
  (dss_cons (s_for (di_seq v_) (gt_ (gs_ g_ (gs_ g_ dgs_nil))) (dss_cons (s_for (ir2_ T.z_range v_ v_) g_ (dss_cons (s_sub de_bl v_ v_)
  dss_nil))
  dss_nil))
  (dss_cons (ds_ret v_)
  dss_nil)))
theorem bd_law_form (T : Txt L mg) : DSs L gm n (cxOf (L2.CX P w) P w L.K mg base n_law_form "_law_form" (defScope s_law_form) (L.FA 106) cdv A outer s H E) (defBody s_law_form) IR.law_form :=
  (dss_cons (s_set (de_lst da_nil))
  (dss_cons (s_for (ir1_ T.z_range de_int) g_ (dss_cons (ds_if (dt_w (dw_and (tv (ix_ v_ v_)) (dw_and (cmpT k_gt v_ de_int) (dw_and1 (tv (ix_ v_ (o_sub v_ de_int))))))) (dss_cons (s_sub (de_tup (a_ (ix_ (ix_ v_ (de_neg de_int)) de_int) (a_ (o_add v_ de_int) da_nil))) v_ (de_neg de_int))
  dss_nil) (dss_cons (ds_if (tv (ix_ v_ v_)) (dss_cons (s_expr (bm_ m_append v_ (a_ (de_tup (a_ v_ (a_ (o_add v_ de_int) da_nil))) da_nil)))
  dss_nil) dss_nil)
  dss_nil))
  dss_nil))
  (dss_cons (ds_ret (bi_ b_tuple T.z_tuple (a_ v_ da_nil)))
  dss_nil)))
theorem bd_law_spread (T : Txt L mg) : DSs L gm n (cxOf (L2.CX P w) P w L.K mg base n_law_spread "_law_spread" (defScope s_law_spread) (L.FA 107) cdv A outer s H E) (defBody s_law_spread) IR.law_spread_k01 :=
  (dss_cons (ds_ret (f_ T.g_law_form (a_ (f_ T.g_law_keys (a_ (f_ T.g_law_stretches (a_ v_ (a_ v_ (a_ v_ da_nil)))) da_nil)) da_nil)))
  dss_nil)
theorem bd_law_told (T : Txt L mg) : DSs L gm n (cxOf (L2.CX P w) P w L.K mg base n_law_told "_law_told" (defScope s_law_told) (L.FA 136) cdv A outer s H E) (defBody s_law_told) ir_law_told :=
  (dss_cons (s_set de_non)
  (dss_cons (try_ T.t_NoText (fun _ _ => (dss_cons (s_set (f_ T.g_read (a_ v_ da_nil)))
  dss_nil)) (qset_ (w := .str "refused") (fun _ => pe_str) (fun _ _ _ _ => rv_str.mpr rfl)))
  (dss_cons (ds_ret v_)
  dss_nil)))
theorem bd_law_say (T : Txt L mg) : DSs L gm n (cxOf (L2.CX P w) P w L.K mg base n_law_say "_law_say" (defScope s_law_say) (L.FA 137) cdv A outer s H E) (defBody s_law_say) ir_law_say :=
  (dss_cons (s_set de_str)
  (dss_cons (s_for (di_seq v_) (gt_ (gs_ g_ (gs_ g_ dgs_nil))) (dss_cons (s_set (o_add (o_add (o_add (o_add v_ (o_smul de_str (bi_ b_int T.z_int (a_ (neE v_ de_str) da_nil)))) (bi_ b_str T.z_str (a_ v_ da_nil))) de_str) (bi_ b_str T.z_str (a_ v_ da_nil))))
  dss_nil))
  (dss_cons (ds_ret v_)
  dss_nil)))
theorem bd_law_read (T : Txt L mg) : DSs L gm n (cxOf (L2.CX P w) P w L.K mg base n_law_read "_law_read" (defScope s_law_read) (L.FA 138) cdv A outer s H E) (defBody s_law_read) ir_law_read :=
  (dss_cons (s_set (de_tup da_nil))
  (dss_cons (s_set (de_neg de_int))
  (dss_cons (s_for (di_seq (de_ite (neT v_ de_str) (de_fz (m_split v_ de_str)) (de_fz (de_lst da_nil)))) g_ (dss_cons (s_set (de_fz (m_split v_ de_str)))
  (dss_cons (ds_if (dt_w (dw_or (neT (bi_ b_len T.z_len (a_ v_ da_nil)) de_int) (dw_or1 (tv (de_fz (lc_ [("_law_end", 7)] (di_seq v_) (fun _ _ _ _ _ => g_) (fun _ _ _ _ _ => (dts_one (dt_w (dw_or (dt_not (chnT k_le k_le de_int (bi_ b_len T.z_len (a_ v_ da_nil)) de_int)) (dw_or1 (neT (m_strip v_ de_str) de_str)))))) (fun _ _ _ _ _ => de_int) (blkOk_by (N := n_law_read) (sc := defScope s_law_read) (by decide +kernel)))))))) (dss_cons (ds_ret de_non)
  dss_nil) dss_nil)
  (dss_cons (s_par2 (a_ (bi_ b_ints T.z_int (a_ (ix_ v_ de_int) da_nil)) (a_ (bi_ b_ints T.z_int (a_ (ix_ v_ de_int) da_nil)) da_nil)))
  (dss_cons (ds_if (dt_w (dw_or (cmpT k_le v_ v_) (dw_or1 (dt_not (chnT k_lt k_le v_ v_ de_int))))) (dss_cons (ds_ret de_non)
  dss_nil) dss_nil)
  (dss_cons (s_set (o_add v_ (de_tup (a_ (de_tup (a_ v_ (a_ v_ da_nil))) da_nil))))
  (dss_cons (s_set v_)
  dss_nil)))))))
  (dss_cons (ds_ret (de_ite (eqT (f_ T.g_law_say (a_ v_ da_nil)) v_) v_ de_non))
  dss_nil))))
theorem bd_law (T : Txt L mg) : DSs L gm n (cxOf (L2.CX P w) P w L.K mg base n_law "law" (defScope s_law) (L.FA 112) cdv A outer s H E) (defBody s_law) ir_law :=
  (dss_cons (s_set (de_lst da_nil))
  (dss_cons (s_for (ir1_ T.z_range de_int) g_ (dss_cons (s_set (f_ T.g_law_spread (a_ v_ (a_ v_ (a_ de_int da_nil)))))
  (dss_cons (s_set (f_ T.g_law_say (a_ v_ da_nil)))
  (dss_cons (ds_if (dt_w (dw_or (dt_not (tv (f_ T.g_law_same (a_ (f_ T.g_written (a_ v_ da_nil)) (a_ v_ da_nil))))) (dw_or1 (dt_not (tv (f_ T.g_law_same (a_ (f_ T.g_law_told (a_ v_ da_nil)) (a_ v_ da_nil)))))))) (dss_cons (ds_ret de_bl)
  dss_nil) dss_nil)
  (dss_cons (s_set (f_ T.g_law_draw (a_ v_ (a_ v_ (a_ (o_add (bi_ b_len T.z_len (a_ v_ da_nil)) de_int) da_nil)))))
  (dss_cons (s_set (f_ T.g_law_pick (a_ v_ (a_ v_ (a_ de_str da_nil)))))
  (dss_cons (s_set (de_lst (a_ (o_add (o_add (de_cut v_ do_none (do_some v_)) v_) (de_cut v_ (do_some v_) do_none)) (a_ (o_add (de_cut v_ do_none (do_some v_)) (de_cut v_ (do_some (o_add v_ de_int)) do_none)) (a_ (o_add v_ de_str) da_nil)))))
  (dss_cons (s_expr (bm_ m_append v_ (a_ (o_add (o_add (de_cut v_ do_none (do_some v_)) v_) (de_cut v_ (do_some (o_add v_ de_int)) do_none)) da_nil)))
  (dss_cons (s_set (de_fz (m_split v_ de_str)))
  (dss_cons (s_set (f_ T.g_law_draw (a_ v_ (a_ v_ (a_ (o_add (bi_ b_len T.z_len (a_ v_ da_nil)) de_int) da_nil)))))
  (dss_cons (s_set (de_lst (a_ (de_fz (o_add (de_fz (de_cut v_ do_none (do_some v_))) (de_fz (de_cut v_ (do_some (o_add v_ de_int)) do_none)))) (a_ (de_fz (o_add v_ (de_fz (de_cut v_ do_none (do_some de_int))))) (a_ (de_fz (rev_ v_)) da_nil)))))
  (dss_cons (s_expr (bm_ m_append v_ (a_ (de_fz (o_add (de_fz (de_cut v_ do_none (do_some v_))) (de_fz (de_lst (a_ (o_add de_str (de_cut v_ do_none (do_some de_int))) da_nil))))) da_nil)))
  (dss_cons (s_set (o_add (de_fz (o_add v_ (de_fz (lc_ [("_law_one", 12)] (di_seq v_) (fun _ _ _ _ _ => g_) (fun _ _ _ _ _ => dts_nil) (fun _ _ _ _ _ => (m_join de_str v_)) (blkOk_by (N := n_law) (sc := defScope s_law) (by decide +kernel)))))) (de_fz (de_lst (a_ (o_add de_str v_) (a_ (o_add de_str v_) (a_ (o_add v_ de_str) (a_ de_str da_nil))))))))
  (dss_cons (s_set (o_add v_ (de_fz (de_lst (a_ de_str (a_ de_str (a_ de_str (a_ de_str (a_ de_str (a_ de_str (a_ de_str (a_ de_str (a_ de_str (a_ de_str da_nil))))))))))))))
  (dss_cons (s_for (di_seq (de_fz (o_add v_ (de_fz (de_lst (a_ de_str (a_ de_str (a_ de_str da_nil)))))))) g_ (dss_cons (ds_if (dt_not (tv (f_ T.g_law_same (a_ (f_ T.g_law_told (a_ v_ da_nil)) (a_ (f_ T.g_law_or (a_ (f_ T.g_law_read (a_ v_ da_nil)) da_nil)) da_nil))))) (dss_cons (ds_ret de_bl)
  dss_nil) dss_nil)
  dss_nil))
  dss_nil)))))))))))))))
  (dss_cons (ds_ret de_bl)
  dss_nil)))
end
theorem all_mk {l : PySem.W.OpenLaw} {w : World} {K : PySem.W.Frag} {h : Heap} {mg : Str → Option Value} {fa f0 f1 f2 f3 f4 f5 f6 f7 f8 f9 f10 f11 f12 f13 f14 f15 f16 f17 f18  X_NoText : Addr} (X : K.In h) (G : h.Ns mainGlobals mg) (hfa : mg "law" = some (.ref fa))
    {od0 an0 od1 an1 od2 an2 od3 an3 od4 an4 od5 an5 od6 an6 od7 an7 od8 an8 od9 an9 od10 an10 od11 an11 od12 an12 od13 an13 od14 an14 od15 an15 od16 an16 od17 an17 od18 an18 : Option Addr} {sl0 sl1 sl2 sl3 sl4 sl5 sl6 sl7 sl8 sl9 sl10 sl11 sl12 sl13 sl14 sl15 sl16 sl17 sl18 : Array (Option Value)} {oc0 kV0 dc0 pm0 cd0 ct0 oc1 kV1 dc1 pm1 cd1 ct1 oc2 kV2 dc2 pm2 cd2 ct2 oc3 kV3 dc3 pm3 cd3 ct3 oc4 kV4 dc4 pm4 cd4 ct4 oc5 kV5 dc5 pm5 cd5 ct5 oc6 kV6 dc6 pm6 cd6 ct6 oc7 kV7 dc7 pm7 cd7 ct7 oc8 kV8 dc8 pm8 cd8 ct8 oc9 kV9 dc9 pm9 cd9 ct9 oc10 kV10 dc10 pm10 cd10 ct10 oc11 kV11 dc11 pm11 cd11 ct11 oc12 kV12 dc12 pm12 cd12 ct12 oc13 kV13 dc13 pm13 cd13 ct13 oc14 kV14 dc14 pm14 cd14 ct14 oc15 kV15 dc15 pm15 cd15 ct15 oc16 kV16 dc16 pm16 cd16 ct16 oc17 kV17 dc17 pm17 cd17 ct17 oc18 kV18 dc18 pm18 cd18 ct18 : Value}
    (a0 : PySem.W.nsIn K mainGlobals "is_whole" = some (some (.ref f0)))
    (l0 : K.lookup f0 = some ⟨oc0, od0, .func (PySem.W.fnOf "is_whole" "is_whole" (defArgs s_is_whole) (defBody s_is_whole) (defScope s_is_whole) .none kV0 dc0 pm0 an0 cd0 ct0), sl0⟩) (c0 : PySem.W.codeIn K cd0 "is_whole" = true) (k0 : PySem.W.keepIn K (.ref f0) = true)
    (a1 : PySem.W.nsIn K mainGlobals "is_stretch" = some (some (.ref f1)))
    (l1 : K.lookup f1 = some ⟨oc1, od1, .func (PySem.W.fnOf "is_stretch" "is_stretch" (defArgs s_is_stretch) (defBody s_is_stretch) (defScope s_is_stretch) .none kV1 dc1 pm1 an1 cd1 ct1), sl1⟩) (c1 : PySem.W.codeIn K cd1 "is_stretch" = true) (k1 : PySem.W.keepIn K (.ref f1) = true)
    (a2 : PySem.W.nsIn K mainGlobals "is_spread" = some (some (.ref f2)))
    (l2 : K.lookup f2 = some ⟨oc2, od2, .func (PySem.W.fnOf "is_spread" "is_spread" (defArgs s_is_spread) (defBody s_is_spread) (defScope s_is_spread) .none kV2 dc2 pm2 an2 cd2 ct2), sl2⟩) (c2 : PySem.W.codeIn K cd2 "is_spread" = true) (k2 : PySem.W.keepIn K (.ref f2) = true)
    (a3 : PySem.W.nsIn K mainGlobals "written" = some (some (.ref f3)))
    (l3 : K.lookup f3 = some ⟨oc3, od3, .func (PySem.W.fnOf "written" "written" (defArgs s_written) (defBody s_written) (defScope s_written) .none kV3 dc3 pm3 an3 cd3 ct3), sl3⟩) (c3 : PySem.W.codeIn K cd3 "written" = true) (k3 : PySem.W.keepIn K (.ref f3) = true)
    (a4 : PySem.W.nsIn K mainGlobals "number_in" = some (some (.ref f4)))
    (l4 : K.lookup f4 = some ⟨oc4, od4, .func (PySem.W.fnOf "number_in" "number_in" (defArgs s_number_in) (defBody s_number_in) (defScope s_number_in) .none kV4 dc4 pm4 an4 cd4 ct4), sl4⟩) (c4 : PySem.W.codeIn K cd4 "number_in" = true) (k4 : PySem.W.keepIn K (.ref f4) = true)
    (a5 : PySem.W.nsIn K mainGlobals "stretch_in" = some (some (.ref f5)))
    (l5 : K.lookup f5 = some ⟨oc5, od5, .func (PySem.W.fnOf "stretch_in" "stretch_in" (defArgs s_stretch_in) (defBody s_stretch_in) (defScope s_stretch_in) .none kV5 dc5 pm5 an5 cd5 ct5), sl5⟩) (c5 : PySem.W.codeIn K cd5 "stretch_in" = true) (k5 : PySem.W.keepIn K (.ref f5) = true)
    (a6 : PySem.W.nsIn K mainGlobals "read" = some (some (.ref f6)))
    (l6 : K.lookup f6 = some ⟨oc6, od6, .func (PySem.W.fnOf "read" "read" (defArgs s_read) (defBody s_read) (defScope s_read) .none kV6 dc6 pm6 an6 cd6 ct6), sl6⟩) (c6 : PySem.W.codeIn K cd6 "read" = true) (k6 : PySem.W.keepIn K (.ref f6) = true)
    (a7 : PySem.W.nsIn K mainGlobals "_law_same" = some (some (.ref f7)))
    (l7 : K.lookup f7 = some ⟨oc7, od7, .func (PySem.W.fnOf "_law_same" "_law_same" (defArgs s_law_same) (defBody s_law_same) (defScope s_law_same) .none kV7 dc7 pm7 an7 cd7 ct7), sl7⟩) (c7 : PySem.W.codeIn K cd7 "_law_same" = true) (k7 : PySem.W.keepIn K (.ref f7) = true)
    (a8 : PySem.W.nsIn K mainGlobals "_law_or" = some (some (.ref f8)))
    (l8 : K.lookup f8 = some ⟨oc8, od8, .func (PySem.W.fnOf "_law_or" "_law_or" (defArgs s_law_or) (defBody s_law_or) (defScope s_law_or) .none kV8 dc8 pm8 an8 cd8 ct8), sl8⟩) (c8 : PySem.W.codeIn K cd8 "_law_or" = true) (k8 : PySem.W.keepIn K (.ref f8) = true)
    (a9 : PySem.W.nsIn K mainGlobals "_law_draw" = some (some (.ref f9)))
    (l9 : K.lookup f9 = some ⟨oc9, od9, .func (PySem.W.fnOf "_law_draw" "_law_draw" (defArgs s_law_draw) (defBody s_law_draw) (defScope s_law_draw) .none kV9 dc9 pm9 an9 cd9 ct9), sl9⟩) (c9 : PySem.W.codeIn K cd9 "_law_draw" = true) (k9 : PySem.W.keepIn K (.ref f9) = true)
    (a10 : PySem.W.nsIn K mainGlobals "_law_pick" = some (some (.ref f10)))
    (l10 : K.lookup f10 = some ⟨oc10, od10, .func (PySem.W.fnOf "_law_pick" "_law_pick" (defArgs s_law_pick) (defBody s_law_pick) (defScope s_law_pick) .none kV10 dc10 pm10 an10 cd10 ct10), sl10⟩) (c10 : PySem.W.codeIn K cd10 "_law_pick" = true) (k10 : PySem.W.keepIn K (.ref f10) = true)
    (a11 : PySem.W.nsIn K mainGlobals "_law_stretches" = some (some (.ref f11)))
    (l11 : K.lookup f11 = some ⟨oc11, od11, .func (PySem.W.fnOf "_law_stretches" "_law_stretches" (defArgs s_law_stretches) (defBody s_law_stretches) (defScope s_law_stretches) .none kV11 dc11 pm11 an11 cd11 ct11), sl11⟩) (c11 : PySem.W.codeIn K cd11 "_law_stretches" = true) (k11 : PySem.W.keepIn K (.ref f11) = true)
    (a12 : PySem.W.nsIn K mainGlobals "_law_keys" = some (some (.ref f12)))
    (l12 : K.lookup f12 = some ⟨oc12, od12, .func (PySem.W.fnOf "_law_keys" "_law_keys" (defArgs s_law_keys) (defBody s_law_keys) (defScope s_law_keys) .none kV12 dc12 pm12 an12 cd12 ct12), sl12⟩) (c12 : PySem.W.codeIn K cd12 "_law_keys" = true) (k12 : PySem.W.keepIn K (.ref f12) = true)
    (a13 : PySem.W.nsIn K mainGlobals "_law_form" = some (some (.ref f13)))
    (l13 : K.lookup f13 = some ⟨oc13, od13, .func (PySem.W.fnOf "_law_form" "_law_form" (defArgs s_law_form) (defBody s_law_form) (defScope s_law_form) .none kV13 dc13 pm13 an13 cd13 ct13), sl13⟩) (c13 : PySem.W.codeIn K cd13 "_law_form" = true) (k13 : PySem.W.keepIn K (.ref f13) = true)
    (a14 : PySem.W.nsIn K mainGlobals "_law_spread" = some (some (.ref f14)))
    (l14 : K.lookup f14 = some ⟨oc14, od14, .func (PySem.W.fnOf "_law_spread" "_law_spread" (defArgs s_law_spread) (defBody s_law_spread) (defScope s_law_spread) .none kV14 dc14 pm14 an14 cd14 ct14), sl14⟩) (c14 : PySem.W.codeIn K cd14 "_law_spread" = true) (k14 : PySem.W.keepIn K (.ref f14) = true)
    (a15 : PySem.W.nsIn K mainGlobals "_law_told" = some (some (.ref f15)))
    (l15 : K.lookup f15 = some ⟨oc15, od15, .func (PySem.W.fnOf "_law_told" "_law_told" (defArgs s_law_told) (defBody s_law_told) (defScope s_law_told) .none kV15 dc15 pm15 an15 cd15 ct15), sl15⟩) (c15 : PySem.W.codeIn K cd15 "_law_told" = true) (k15 : PySem.W.keepIn K (.ref f15) = true)
    (a16 : PySem.W.nsIn K mainGlobals "_law_say" = some (some (.ref f16)))
    (l16 : K.lookup f16 = some ⟨oc16, od16, .func (PySem.W.fnOf "_law_say" "_law_say" (defArgs s_law_say) (defBody s_law_say) (defScope s_law_say) .none kV16 dc16 pm16 an16 cd16 ct16), sl16⟩) (c16 : PySem.W.codeIn K cd16 "_law_say" = true) (k16 : PySem.W.keepIn K (.ref f16) = true)
    (a17 : PySem.W.nsIn K mainGlobals "_law_read" = some (some (.ref f17)))
    (l17 : K.lookup f17 = some ⟨oc17, od17, .func (PySem.W.fnOf "_law_read" "_law_read" (defArgs s_law_read) (defBody s_law_read) (defScope s_law_read) .none kV17 dc17 pm17 an17 cd17 ct17), sl17⟩) (c17 : PySem.W.codeIn K cd17 "_law_read" = true) (k17 : PySem.W.keepIn K (.ref f17) = true)
    (a18 : PySem.W.nsIn K mainGlobals "law" = some (some (.ref f18)))
    (l18 : K.lookup f18 = some ⟨oc18, od18, .func (PySem.W.fnOf "law" "law" (defArgs s_law) (defBody s_law) (defScope s_law) .none kV18 dc18 pm18 an18 cd18 ct18), sl18⟩) (c18 : PySem.W.codeIn K cd18 "law" = true) (k18 : PySem.W.keepIn K (.ref f18) = true)
    (aX_NoText : PySem.W.nsIn K mainGlobals "NoText" = some (some (.ref X_NoText))) (xP_NoText : PySem.W.excIn K X_NoText [.type "ValueError", .type "Exception", .type "BaseException", .type "object"] "ValueError.__new__" = true) (kP_NoText : PySem.W.keepIn K (.ref X_NoText) = true) (bP_NoText : PySem.W.subIn K (.ref X_NoText) (.type "BaseException") = some true) (tP_NoText : PySem.W.typeIn K (.ref X_NoText) = some (.type "type")) (iP_NoText : PySem.W.isClsIn K X_NoText = true) (sP_NoText : PySem.W.subIn K (.ref X_NoText) (.ref X_NoText) = some true)
    (z_all : PySem.W.nsIn K mainGlobals "all" = some none)
    (z_bool : PySem.W.nsIn K mainGlobals "bool" = some none)
    (z_int : PySem.W.nsIn K mainGlobals "int" = some none)
    (z_isinstance : PySem.W.nsIn K mainGlobals "isinstance" = some none)
    (z_len : PySem.W.nsIn K mainGlobals "len" = some none)
    (z_min : PySem.W.nsIn K mainGlobals "min" = some none)
    (z_range : PySem.W.nsIn K mainGlobals "range" = some none)
    (z_str : PySem.W.nsIn K mainGlobals "str" = some none)
    (z_tuple : PySem.W.nsIn K mainGlobals "tuple" = some none)
    (z_zip : PySem.W.nsIn K mainGlobals "zip" = some none)
    {t_FIGURES : Tok} (q_FIGURES : PySem.W.nsIn K mainGlobals "FIGURES" = some (some (.str "0123456789" t_FIGURES)))
    {t_KEYS : Tok} (q_KEYS : PySem.W.nsIn K mainGlobals "KEYS" = some (some (.int 100 t_KEYS)))
    (hl : ∀ ns : List Int, ns.length ≤ 63 → callN gm 40 112 [.rol (ns.map .int)] (fun _ => none) (fun d _ => d = .bl true) (fun _ _ => False)) :
    ∃ fd : FuncData, (∀ (s : Shared) (v : Value), BindsTo s fd ⟨[v], []⟩ [("_law_script", v)]) ∧ ∀ base : Heap, K.In base → base.Ns mainGlobals mg → FnOk l.prog w K mg base (L2.CX l.prog w) 80 fa fd ["_law_script"] (spLaw K) := by
  have e := hfa.symm.trans (PySem.W.mg_of X G a18)
  cases e
  let L : Lk := ⟨K, fun q => (([] : List (Nat × Addr)).lookup q).getD 0, fun q => (([] : List (Nat × List Str)).lookup q).getD [], fun q => (([(2, .ref X_NoText)] : List (Nat × Value)).lookup q).getD .none, fun q => (([(1, f0), (2, f1), (3, f2), (57, f3), (58, f4), (59, f5), (60, f6), (101, f7), (135, f8), (102, f9), (103, f10), (104, f11), (105, f12), (106, f13), (107, f14), (136, f15), (137, f16), (138, f17), (112, fa)] : List (Nat × Addr)).lookup q).getD 0, fun q => (([] : List (Nat × Str)).lookup q).getD ""⟩
  have T : Txt L mg := ⟨True.intro, PySem.W.mg_none_of X G z_all, PySem.W.mg_none_of X G z_bool, PySem.W.mg_none_of X G z_int, PySem.W.mg_none_of X G z_isinstance, PySem.W.mg_none_of X G z_len, PySem.W.mg_none_of X G z_min, PySem.W.mg_none_of X G z_range, PySem.W.mg_none_of X G z_str, PySem.W.mg_none_of X G z_tuple, PySem.W.mg_none_of X G z_zip, ⟨_, PySem.W.mg_of X G q_FIGURES⟩, ⟨_, PySem.W.mg_of X G q_KEYS⟩, PySem.W.mg_of X G a0, PySem.W.mg_of X G a1, PySem.W.mg_of X G a2, PySem.W.mg_of X G a3, PySem.W.mg_of X G a4, PySem.W.mg_of X G a5, PySem.W.mg_of X G a6, PySem.W.mg_of X G a7, PySem.W.mg_of X G a8, PySem.W.mg_of X G a9, PySem.W.mg_of X G a10, PySem.W.mg_of X G a11, PySem.W.mg_of X G a12, PySem.W.mg_of X G a13, PySem.W.mg_of X G a14, PySem.W.mg_of X G a15, PySem.W.mg_of X G a16, PySem.W.mg_of X G a17, ⟨X_NoText, rfl, ⟨xP_NoText, kP_NoText, bP_NoText, tP_NoText⟩, PySem.W.mg_of X G aX_NoText⟩, ⟨_, PySem.W.mg_of X G aX_NoText, fun i hi => by (have z : i = 2 := by simpa using hi); subst z; exact exm_own bP_NoText iP_NoText tP_NoText sP_NoText⟩⟩
  have F0 := fun_mk (st := s_is_whole) l0 c0 k0
  have b0 := F0.binds (ps := ["thing", "low", "high"]) fun _ _ _ _ _ _ us hl => match us, hl with | [_, _, _], _ => rfl
  have D0 : Def1 L gm l.prog w mg 1 ⟨3, 3, IR.is_whole⟩ _ ["thing", "low", "high"] := ⟨_, _, _, n_is_whole, F0, sc_is_whole, rfl, rfl, b0, fun _ _ _ _ _ _ _ _ => bd_is_whole T⟩
  have F1 := fun_mk (st := s_is_stretch) l1 c1 k1
  have b1 := F1.binds (ps := ["thing"]) fun _ _ _ _ _ _ us hl => match us, hl with | [_], _ => rfl
  have D1 : Def1 L gm l.prog w mg 2 ⟨1, 1, IR.is_stretch⟩ _ ["thing"] := ⟨_, _, _, n_is_stretch, F1, sc_is_stretch, rfl, rfl, b1, fun _ _ _ _ _ _ _ _ => bd_is_stretch T⟩
  have F2 := fun_mk (st := s_is_spread) l2 c2 k2
  have b2 := F2.binds (ps := ["thing"]) fun _ _ _ _ _ _ us hl => match us, hl with | [_], _ => rfl
  have D2 : Def1 L gm l.prog w mg 3 ⟨1, 3, IR.is_spread⟩ _ ["thing"] := ⟨_, _, _, n_is_spread, F2, sc_is_spread, rfl, rfl, b2, fun _ _ _ _ _ _ _ _ => bd_is_spread T⟩
  have F3 := fun_mk (st := s_written) l3 c3 k3
  have b3 := F3.binds (ps := ["spread"]) fun _ _ _ _ _ _ us hl => match us, hl with | [_], _ => rfl
  have D3 : Def1 L gm l.prog w mg 57 ⟨1, 3, IR.written⟩ _ ["spread"] := ⟨_, _, _, n_written, F3, sc_written, rfl, rfl, b3, fun _ _ _ _ _ _ _ _ => bd_written T⟩
  have F4 := fun_mk (st := s_number_in) l4 c4 k4
  have b4 := F4.binds (ps := ["word"]) fun _ _ _ _ _ _ us hl => match us, hl with | [_], _ => rfl
  have D4 : Def1 L gm l.prog w mg 58 ⟨1, 2, IR.number_in⟩ _ ["word"] := ⟨_, _, _, n_number_in, F4, sc_number_in, rfl, rfl, b4, fun _ _ _ _ _ _ _ _ => bd_number_in T⟩
  have F5 := fun_mk (st := s_stretch_in) l5 c5 k5
  have b5 := F5.binds (ps := ["part"]) fun _ _ _ _ _ _ us hl => match us, hl with | [_], _ => rfl
  have D5 : Def1 L gm l.prog w mg 59 ⟨1, 2, IR.stretch_in⟩ _ ["part"] := ⟨_, _, _, n_stretch_in, F5, sc_stretch_in, rfl, rfl, b5, fun _ _ _ _ _ _ _ _ => bd_stretch_in T⟩
  have F6 := fun_mk (st := s_read) l6 c6 k6
  have b6 := F6.binds (ps := ["text"]) fun _ _ _ _ _ _ us hl => match us, hl with | [_], _ => rfl
  have D6 : Def1 L gm l.prog w mg 60 ⟨1, 3, IR.read⟩ _ ["text"] := ⟨_, _, _, n_read, F6, sc_read, rfl, rfl, b6, fun _ _ _ _ _ _ _ _ => bd_read T⟩
  have F7 := fun_mk (st := s_law_same) l7 c7 k7
  have b7 := F7.binds (ps := ["_law_got", "_law_due"]) fun _ _ _ _ _ _ us hl => match us, hl with | [_, _], _ => rfl
  have D7 : Def1 L gm l.prog w mg 101 ⟨2, 4, IR.law_same⟩ _ ["_law_got", "_law_due"] := ⟨_, _, _, n_law_same, F7, sc_law_same, rfl, rfl, b7, fun _ _ _ _ _ _ _ _ => bd_law_same T⟩
  have F8 := fun_mk (st := s_law_or) l8 c8 k8
  have b8 := F8.binds (ps := ["_law_due"]) fun _ _ _ _ _ _ us hl => match us, hl with | [_], _ => rfl
  have D8 : Def1 L gm l.prog w mg 135 ⟨1, 1, ir_law_or⟩ _ ["_law_due"] := ⟨_, _, _, n_law_or, F8, sc_law_or, rfl, rfl, b8, fun _ _ _ _ _ _ _ _ => bd_law_or T⟩
  have F9 := fun_mk (st := s_law_draw) l9 c9 k9
  have b9 := F9.binds (ps := ["_law_script", "_law_town", "_law_many"]) fun _ _ _ _ _ _ us hl => match us, hl with | [_, _, _], _ => rfl
  have D9 : Def1 L gm l.prog w mg 102 ⟨3, 6, IR.law_draw_k01⟩ _ ["_law_script", "_law_town", "_law_many"] := ⟨_, _, _, n_law_draw, F9, sc_law_draw, rfl, rfl, b9, fun _ _ _ _ _ _ _ _ => bd_law_draw T⟩
  have F10 := fun_mk (st := s_law_pick) l10 c10 k10
  have b10 := F10.binds (ps := ["_law_script", "_law_town", "_law_some"]) fun _ _ _ _ _ _ us hl => match us, hl with | [_, _, _], _ => rfl
  have D10 : Def1 L gm l.prog w mg 103 ⟨3, 3, IR.law_pick⟩ _ ["_law_script", "_law_town", "_law_some"] := ⟨_, _, _, n_law_pick, F10, sc_law_pick, rfl, rfl, b10, fun _ _ _ _ _ _ _ _ => bd_law_pick T⟩
  have F11 := fun_mk (st := s_law_stretches) l11 c11 k11
  have b11 := F11.binds (ps := ["_law_script", "_law_town", "_law_most"]) fun _ _ _ _ _ _ us hl => match us, hl with | [_, _, _], _ => rfl
  have D11 : Def1 L gm l.prog w mg 104 ⟨3, 8, IR.law_stretches⟩ _ ["_law_script", "_law_town", "_law_most"] := ⟨_, _, _, n_law_stretches, F11, sc_law_stretches, rfl, rfl, b11, fun _ _ _ _ _ _ _ _ => bd_law_stretches T⟩
  have F12 := fun_mk (st := s_law_keys) l12 c12 k12
  have b12 := F12.binds (ps := ["_law_stretches_here"]) fun _ _ _ _ _ _ us hl => match us, hl with | [_], _ => rfl
  have D12 : Def1 L gm l.prog w mg 105 ⟨1, 5, IR.law_keys_k01⟩ _ ["_law_stretches_here"] := ⟨_, _, _, n_law_keys, F12, sc_law_keys, rfl, rfl, b12, fun _ _ _ _ _ _ _ _ => bd_law_keys T⟩
  have F13 := fun_mk (st := s_law_form) l13 c13 k13
  have b13 := F13.binds (ps := ["_law_keys_here"]) fun _ _ _ _ _ _ us hl => match us, hl with | [_], _ => rfl
  have D13 : Def1 L gm l.prog w mg 106 ⟨1, 3, IR.law_form⟩ _ ["_law_keys_here"] := ⟨_, _, _, n_law_form, F13, sc_law_form, rfl, rfl, b13, fun _ _ _ _ _ _ _ _ => bd_law_form T⟩
  have F14 := fun_mk (st := s_law_spread) l14 c14 k14
  have b14 := F14.binds (ps := ["_law_script", "_law_town", "_law_most"]) fun _ _ _ _ _ _ us hl => match us, hl with | [_, _, _], _ => rfl
  have D14 : Def1 L gm l.prog w mg 107 ⟨3, 3, IR.law_spread_k01⟩ _ ["_law_script", "_law_town", "_law_most"] := ⟨_, _, _, n_law_spread, F14, sc_law_spread, rfl, rfl, b14, fun _ _ _ _ _ _ _ _ => bd_law_spread T⟩
  have F15 := fun_mk (st := s_law_told) l15 c15 k15
  have b15 := F15.binds (ps := ["_law_text"]) fun _ _ _ _ _ _ us hl => match us, hl with | [_], _ => rfl
  have D15 : Def1 L gm l.prog w mg 136 ⟨1, 2, ir_law_told⟩ _ ["_law_text"] := ⟨_, _, _, n_law_told, F15, sc_law_told, rfl, rfl, b15, fun _ _ _ _ _ _ _ _ => bd_law_told T⟩
  have F16 := fun_mk (st := s_law_say) l16 c16 k16
  have b16 := F16.binds (ps := ["_law_spread_here"]) fun _ _ _ _ _ _ us hl => match us, hl with | [_], _ => rfl
  have D16 : Def1 L gm l.prog w mg 137 ⟨1, 4, ir_law_say⟩ _ ["_law_spread_here"] := ⟨_, _, _, n_law_say, F16, sc_law_say, rfl, rfl, b16, fun _ _ _ _ _ _ _ _ => bd_law_say T⟩
  have F17 := fun_mk (st := s_law_read) l17 c17 k17
  have b17 := F17.binds (ps := ["_law_text"]) fun _ _ _ _ _ _ us hl => match us, hl with | [_], _ => rfl
  have D17 : Def1 L gm l.prog w mg 138 ⟨1, 8, ir_law_read⟩ _ ["_law_text"] := ⟨_, _, _, n_law_read, F17, sc_law_read, rfl, rfl, b17, fun _ _ _ _ _ _ _ _ => bd_law_read T⟩
  have F18 := fun_mk (st := s_law) l18 c18 k18
  have b18 := F18.binds (ps := ["_law_script"]) fun _ _ _ _ _ _ us hl => match us, hl with | [_], _ => rfl
  have D18 : Def1 L gm l.prog w mg 112 ⟨1, 13, ir_law⟩ _ ["_law_script"] := ⟨_, _, _, n_law, F18, sc_law, rfl, rfl, b18, fun _ _ _ _ _ _ _ _ => bd_law T⟩
  have all : ∀ f fd, gm.fn f = some fd → ∃ fdt ps, Def1 L gm l.prog w mg f fd fdt ps := allD_get (R := fun f fd => ∃ fdt ps, Def1 L gm l.prog w mg f fd fdt ps) (t := tbl) ⟨⟨_, _, D0⟩, ⟨_, _, D1⟩, ⟨_, _, D2⟩, ⟨_, _, D3⟩, ⟨_, _, D4⟩, ⟨_, _, D5⟩, ⟨_, _, D6⟩, ⟨_, _, D7⟩, ⟨_, _, D8⟩, ⟨_, _, D9⟩, ⟨_, _, D10⟩, ⟨_, _, D11⟩, ⟨_, _, D12⟩, ⟨_, _, D13⟩, ⟨_, _, D14⟩, ⟨_, _, D15⟩, ⟨_, _, D16⟩, ⟨_, _, D17⟩, ⟨_, _, D18⟩, True.intro⟩
  have cl : ∀ C cd, gm.cl C = some cd → ClOk L gm C cd := clsD_get (R := fun C cd => ClOk L gm C cd) (t := clt) True.intro
  exact ⟨_, fun s v => .of_eq rfl, fun base _ _ => law_ok all cl D18 rfl hl⟩
end Lk13

set_option Elab.async false
set_option linter.all false
set_option maxRecDepth 100000
set_option maxHeartbeats 1000000
namespace Lk13
open DL PySem DP
open L2 hiding prD
theorem draws : Draws gm := fun n ns _ _ _ _ _ _ ht hk hm h => draw1 rfl n ns ht hk hm h
def ascT (z : Str) : Prop := ∀ c ∈ TL.tl z, c < 128
theorem asc_ok {z : Str} (h : ascT z) : PyData.strOk z = true := by
  unfold PyData.strOk
  rw [Array.all_eq_true_iff_forall_mem]
  intro c hc
  have := h c (Array.mem_toList_iff.mpr hc)
  exact decide_eq_true (by omega)
theorem asc_app {a b : Str} (ha : ascT a) (hb : ascT b) : ascT (a ++ b) := fun c hc => by
  rw [TL.tl_append, List.mem_append] at hc
  exact hc.elim (ha c) (hb c)
theorem asc_say {l : PL} (hl : ∀ p ∈ l, okSt p) : ascT (sayT l) := sayT_sgn hl
theorem asc_split {x y : Str} {s : Nat} (ey : TL.tl y = [s]) (hk : y.cps.all (· < 256) = true) (h : ascT x) {w : Str} (hw : w ∈ Txt.split x y) : ascT w := fun c hc => h c ((split_mem ey hk hw).2 c hc)
theorem joinL_snoc {S q : List Nat} : ∀ {ps : List (List Nat)}, ps ≠ [] → TL.joinL S (ps ++ [q]) = TL.joinL S ps ++ (S ++ q)
  | [p], _ => rfl
  | p :: r :: t, _ => by
    have ih := joinL_snoc (S := S) (q := q) (ps := r :: t) (by simp)
    show p ++ (S ++ TL.joinL S (r :: t ++ [q])) = p ++ (S ++ TL.joinL S (r :: t)) ++ (S ++ q)
    rw [ih]; simp
theorem sayT_snoc (l : PL) (p : Int × Int) : (((sayT l ++ (if (sayT l == "") = true then Str.empty else ",")) ++ numT p.1) ++ "-") ++ numT p.2 = sayT (l ++ [p]) := by
  refine TL.ext_tl ?_
  have e0 : TL.tl Str.empty = [] := rfl
  have es : TL.tl (sayP p) = TL.tl (numT p.1) ++ (TL.tl "-" ++ TL.tl (numT p.2)) := by
    unfold sayP
    rw [empty_app, TL.tl_append, TL.tl_append, List.append_assoc]
  by_cases h : l = []
  · subst h
    rw [if_pos (say_nil.mpr rfl)]
    show TL.tl _ = TL.tl (Txt.join "," [sayP p])
    rw [TL.join_eq, TL.tl_join]
    show _ = TL.tl (sayP p)
    rw [es, TL.tl_append, TL.tl_append, TL.tl_append, TL.tl_append, e0]
    show TL.tl Str.empty ++ [] ++ _ ++ _ ++ _ = _
    rw [e0]; simp
  · rw [if_neg fun e => h (say_nil.mp e)]
    have : TL.tl (sayT (l ++ [p])) = TL.tl (sayT l) ++ (TL.tl "," ++ TL.tl (sayP p)) := by
      unfold sayT
      rw [TL.join_eq, TL.join_eq, TL.tl_join, TL.tl_join, List.map_append, List.map_append, List.map_cons, List.map_nil, List.map_cons, List.map_nil, joinL_snoc (by simpa using h)]
    rw [this, es, TL.tl_append, TL.tl_append, TL.tl_append, TL.tl_append]
    simp
theorem str1_num {i : Int} {A : AH} {Q : QE} (h0 : 0 ≤ i) (h1 : i ≤ 100) (q : Q (.str (numT i)) A) : dBi .str1 [.int i] A Q := ⟨log_ok h0 h1, q⟩
theorem smul_c {k : Bool} {z : Str} {A : AH} {Q : QE} (q : Q (.str (if k = true then Str.empty else z)) A) : dBi .smul [.str z, .int (if (!k) = true then 1 else 0)] A Q := by
  cases k with
  | true => exact .inl ⟨rfl, q⟩
  | false => exact .inr ⟨rfl, q⟩
theorem x_eqSt {x y : Str} {A : AH} {Q : QE} (hx : PyData.strOk x = true) (hy : PyData.strOk y = true) : dCmp .eq (.str x) (.str y) A Q = Q (.bl (x == y)) A := by
  show (match pd A 6 (.str x), pd A 6 (.str y) with | some p, some q => Q (.bl (PyData.eqv p q)) A | _, _ => False) = _
  simp only [pd, hx, hy, if_true]
  rw [eqvS]
theorem len_ok {n : Nat} (h : n ≤ 100000) : n ≤ sizeLine := Nat.le_trans h (by decide)
section
variable {n : Nat} {A : AH} {Q : QE} {E : XQ} {l : PL} {z w : Str}
theorem say_ok (hl : ∀ p ∈ l, okSt p) (hz : l.length ≤ 1000) (q : Q (.str (sayT l)) A) : callN gm (n + 1) 137 [spd l] A Q E := by
  refine callN_mk (show gm.fn 137 = some ⟨1, 4, ir_law_say⟩ from rfl) rfl ?_
  unfold ir_law_say
  walk_at "wpx"
  refine for_inv (fun j δ B => ∃ d2 d3, δ = [some (spd l), some (.str (sayT (l.take j))), d2, d3] ∧ B = A) _ 0 (fun i x δ B M hi hI hM => ?_) ⟨none, none, rfl, rfl⟩ ?_
  · obtain ⟨d2, d3, rfl, rfl⟩ := hI
    obtain ⟨p, hp, rfl⟩ := List.getElem?_map ▸ hi |> Option.map_eq_some_iff.mp
    have h := hl p (List.mem_of_getElem? hp)
    have h0 : 0 ≤ p.1 := h.1
    have h1 : p.1 < p.2 := h.2.1
    have h2 : p.2 ≤ 100 := h.2.2
    rw [Nat.zero_add] at hM ⊢
    have ht : ∀ r ∈ l.take i, okSt r := fun r hr => hl r (List.mem_of_mem_take hr)
    have hlen := sayT_len ht
    have htl : (l.take i).length ≤ 1000 := by rw [List.length_take]; omega
    have hsn := sayT_snoc (l.take i) p
    have e1 : l.take i ++ [p] = l.take (i + 1) := by rw [List.take_add_one, hp]; rfl
    rw [e1] at hsn
    have hok := sayT_ok ht
    generalize sayT (l.take i) = T at hsn hlen hok
    have n1 := numT_len h0 (by omega)
    have n2 := numT_len (i := p.2) (by omega) h2
    refine ⟨True.intro, ?_⟩
    rw [prD_eq]
    unfold ir_law_say_b1
    walk_at "wpx"
    rw [x_neSt hok (by decide +kernel), eqvS]
    walk_at "wpx"
    refine smul_c ?_
    have lc : (if (T == "") = true then Str.empty else (",": Str)).length ≤ 1 := by split <;> decide
    have ld : ("-" : Str).length = 1 := by decide
    walk_at "wpx"
    refine ⟨len_ok (by omega), ?_⟩
    refine str1_num h0 (by omega) ?_
    walk_at "wpx"
    refine ⟨len_ok (by rw [len_app']; omega), ?_⟩
    refine ⟨len_ok (by rw [len_app', len_app']; omega), ?_⟩
    refine str1_num (by omega) h2 ?_
    walk_at "wpx"
    refine ⟨len_ok (by rw [len_app', len_app', len_app']; omega), ?_⟩
    rw [hsn]
    exact hM _ _ ⟨_, _, rfl, rfl⟩
  · rintro δ B ⟨d2, d3, rfl, rfl⟩
    rw [Nat.zero_add, List.length_map, List.take_length]
    refine ⟨True.intro, ?_⟩
    walk_at "wgo"
    exact ret_here q
theorem strip_no (x : Str) : (Txt.stripChars x "0123456789" == "") = digT x := by
  have he : Txt.stripChars x "0123456789" = PySem.Builtin.Str.strSub x (PySem.stripLo (("0123456789" : Str).cps.contains) true x) (PySem.stripHi (("0123456789" : Str).cps.contains) true x (PySem.stripLo (("0123456789" : Str).cps.contains) true x)) := PyProof.Rows.stripBy_eq _ _ _ x
  obtain ⟨a1, a2, a3⟩ := PyProof.Rows.lo_facts (("0123456789" : Str).cps.contains) x
  obtain ⟨b1, b2, b3, b4⟩ := PyProof.Rows.hi_facts (("0123456789" : Str).cps.contains) x _ a1
  rw [he]
  generalize PySem.stripLo (("0123456789" : Str).cps.contains) true x = lo at *
  generalize PySem.stripHi (("0123456789" : Str).cps.contains) true x lo = hi at *
  have hc : ∀ c : Nat, ("0123456789" : Str).cps.contains c = decide (c ∈ ("0123456789" : Str).cps.toList) := fun c => by
    rw [Bool.eq_iff_iff, Array.contains_iff_mem, decide_eq_true_eq, Array.mem_toList_iff]
  have hl : TL.tl (PySem.Builtin.Str.strSub x lo hi) = ((TL.tl x).drop lo).take (hi - lo) := TL.tl_strSub x lo hi
  have hx : (TL.tl x).length = x.length := (TL.len_tl x).symm
  rw [Bool.eq_iff_iff]
  constructor
  · intro h
    have h := eq_of_beq h
    rw [h] at hl
    have h0 := congrArg List.length hl
    rw [List.length_take, List.length_drop, hx] at h0
    have h0 : 0 = min (hi - lo) (x.length - lo) := h0
    have hlo : lo = x.length := by
      rcases a3 with h | h
      · exact h
      · by_cases c : lo < x.length
        · have : hi = lo := by omega
          have := b3 lo (by omega) c
          rw [h] at this; cases this
        · omega
    unfold digT
    rw [List.all_eq_true]
    intro c hcm
    obtain ⟨k, hk⟩ := List.mem_iff_getElem?.mp hcm
    have hkl := (List.getElem?_eq_some_iff.mp hk).1
    have hkl : k < x.length := by
      have : x.cps.toList.length = x.length := hx
      omega
    have := a2 k (by omega)
    rw [hc] at this
    have e : x.cps.getD k 0 = c := by
      rw [← PyProof.Rows.getD_list, List.getD_eq_getElem?_getD, hk]; rfl
    rw [e] at this
    exact this
  · intro h
    unfold digT at h
    rw [List.all_eq_true] at h
    have hall : ∀ k, k < x.length → ("0123456789" : Str).cps.contains (x.cps.getD k 0) = true := fun k hk => by
      rw [hc]
      refine h _ ?_
      rw [← PyProof.Rows.getD_list, List.getD_eq_getElem?_getD]
      have hk' : k < x.cps.toList.length := by show k < (TL.tl x).length; omega
      rw [List.getElem?_eq_getElem hk']
      exact List.getElem_mem _
    have hlo : lo = x.length := by
      rcases a3 with h | h
      · exact h
      · by_cases c : lo < x.length
        · rw [hall lo c] at h; cases h
        · omega
    have : PySem.Builtin.Str.strSub x lo hi = "" := TL.ext_tl (by rw [hl, List.drop_of_length_le (by omega), List.take_nil]; rfl)
    rw [this]; rfl
theorem strip_len (x : Str) : (Txt.stripChars x "0123456789").length ≤ x.length := PyProof.Rows.len_stripChars x _
theorem asc_strip {x : Str} (h : ascT x) : ascT (Txt.stripChars x "0123456789") := fun c hc => by
  have he : Txt.stripChars x "0123456789" = PySem.Builtin.Str.strSub x _ _ := PyProof.Rows.stripBy_eq _ _ _ x
  rw [he, TL.tl_strSub] at hc
  exact h c (List.mem_of_mem_drop (List.mem_of_mem_take hc))
/-- a number's text, by hand -/
def badE (w : Str) : Bool := !(decide ((1 : Int) ≤ (w.length : Int)) && decide ((w.length : Int) ≤ 3)) || !digT w
theorem badE_num (w : Str) : (numC w).isNone = badE w := by
  unfold numC badE
  cases e1 : decide ((1 : Int) ≤ (w.length : Int)) <;> cases e2 : decide ((w.length : Int) ≤ 3) <;> cases e3 : digT w <;> try rfl
  have h1 := of_decide_eq_true e1
  have h2 := of_decide_eq_true e2
  obtain ⟨i, hi⟩ := intText_dig e3 (by omega) (by omega)
  rw [if_pos (by rfl), hi]; rfl
theorem numC_some {w : Str} {i : Int} (h : numC w = some i) : intText? w = some i ∧ w.length ≤ 3 := by
  unfold numC at h
  split at h
  · next c =>
    rw [Bool.and_eq_true, Bool.and_eq_true, decide_eq_true_eq, decide_eq_true_eq] at c
    exact ⟨h, by omega⟩
  · cases h
theorem okF_snoc {lo : Int} : ∀ {l : PL} {p : Int × Int}, okF lo l → okSt p → (∀ q ∈ l, q.2 < p.1) → lo ≤ p.1 → okF lo (l ++ [p])
  | [], p, _, hp, _, h0 => ⟨h0, hp.2.1, hp.2.2, True.intro⟩
  | q :: r, p, ⟨h1, h2, h3, h4⟩, hp, hq, h0 => ⟨h1, h2, h3, okF_snoc h4 hp (fun z hz => hq z (List.mem_cons_of_mem _ hz)) (by have := hq q List.mem_cons_self; omega)⟩
def stE (es : List Str) : Option (Int × Int) := match es with
  | [a, b] => match numC a, numC b with | some i, some j => some (i, j) | _, _ => none
  | _ => none
theorem stC_E (w : Str) : stC w = stE (Txt.split w "-") := rfl
theorem stE_no : ∀ {es : List Str}, es.length ≠ 2 → stE es = none
  | [], _ => rfl
  | [_], _ => rfl
  | [_, _], h => absurd rfl h
  | _ :: _ :: _ :: _, _ => rfl
/-- one part by the law's hand -/
theorem read_b1 {hz : w.length ≤ 10000} (ha : ascT w) {m : PL} {b : Int} {P : Pst} {d0 d4 d5 d6 d7 : Option D} (hm : m.length ≤ 20000)
    (h0 : stC w = none → P.rt .non A) (h1 : ∀ i j, stC w = some (i, j) → ¬ (b < i ∧ i < j ∧ j ≤ 100) → P.rt .non A) (h2 : ∀ i j d4, stC w = some (i, j) → b < i → i < j → j ≤ 100 → P.nx [d0, some (spd (m ++ [(i, j)])), some (.int j), some (.str w), d4, some (.int i), some (.int j), d7] A) :
    wpSs (callN gm n) gm ir_law_read_b1 P [d0, some (spd m), some (.int b), some (.str w), d4, d5, d6, d7] A := by
  have hmm : ∀ u ∈ Txt.split w "-", u.length ≤ 10000 ∧ ascT u := fun u hu => ⟨Nat.le_trans (split_mem das_tl das_k hu).1 hz, asc_split das_tl das_k ha hu⟩
  rw [stC_E] at h0 h1 h2
  unfold ir_law_read_b1
  walk_at "wpx"
  refine ⟨trivial, ?_⟩
  refine x_splitF (by decide) (Nat.le_trans (Nat.add_le_add_right hz 2) (by decide)) ?_
  have hsl := split_len (x := w) das_tl das_k
  generalize Txt.split w "-" = es at h0 h1 h2 hmm hsl
  refine newL_fz ?_
  walk_at "wgo"
  by_cases c : es.length = 2
  · match es, c, h0, h1, h2, hmm with
    | [x, y], _, h0, h1, h2, hmm =>
      obtain ⟨x1, x2⟩ := hmm x (by simp)
      obtain ⟨y1, y2⟩ := hmm y (by simp)
      unfold stE at h0 h1 h2
      dsimp only at h0 h1 h2
      rw [show decide (((List.map D.str [x, y]).length : Int) = (2 : Int)) = true from rfl]
      walk_at "wgo"
      refine comp_if (fun u : Str => D.str u) badE (fun _ => .int 1) (xs := [x, y]) True.intro (fun u hu R1 R2 r1 r2 => ?_) ?_
      · have hu2 : u.length ≤ 10000 ∧ ascT u := hmm u hu
        have hul : u.length ≤ sizeLine := Nat.le_trans hu2.1 (by decide)
        have hul2 : (Txt.stripChars u "0123456789").length ≤ sizeLine := Nat.le_trans (strip_len u) hul
        unfold badE at r1 r2
        rw [g_nm]
        walk_at "wpx"
        refine ⟨hul, ?_⟩
        walk_at "wpx"
        cases e1 : decide ((1 : Int) ≤ (u.length : Int)) with
        | false =>
          rw [e1] at r1 r2
          walk_at "wpx"
          exact r1 rfl
        | true =>
          walk_at "wpx"
          cases e2 : decide ((u.length : Int) ≤ 3) with
          | false =>
            rw [e1, e2] at r1 r2
            walk_at "wpx"
            exact r1 rfl
          | true =>
            rw [e1, e2] at r1 r2
            walk_at "wpx"
            refine ⟨trivial, hul, ?_⟩
            show dCmp .ne (.str (Txt.stripChars u "0123456789")) (.str "") A _
            rw [x_neSt (asc_ok (asc_strip hu2.2)) (by decide +kernel), eqvS, strip_no]
            cases e3 : digT u with
            | true =>
              rw [e3] at r1 r2
              walk_at "wpx"
              exact r2 rfl
            | false =>
              rw [e3] at r1 r2
              walk_at "wpx"
              exact r1 rfl
      refine newL_fz ?_
      walk_at "wpx"
      by_cases hb : badE x = true ∨ badE y = true
      · have hn : (match numC x, numC y with | some i, some j => some (i, j) | _, _ => (none : Option (Int × Int))) = none := by
          rcases hb with hb | hb
          · rw [← badE_num] at hb
            cases e : numC x with
            | none => rfl
            | some i => rw [e] at hb; cases hb
          · rw [← badE_num] at hb
            cases e : numC y with
            | none => cases numC x <;> rfl
            | some i => rw [e] at hb; cases hb
        have hne : (!(([x, y].filter badE).map fun _ => D.int 1).isEmpty) = true := by
          rcases hb with hb | hb <;> simp only [List.filter_cons, List.filter_nil, hb, if_true] <;> first | rfl | (split <;> rfl)
        rw [hne]
        walk_at "wgo"
        exact h0 hn
      · have hb1 : badE x = false := by cases e : badE x with | false => rfl | true => exact absurd (.inl e) hb
        have hb2 : badE y = false := by cases e : badE y with | false => rfl | true => exact absurd (.inr e) hb
        obtain ⟨i, hi⟩ : ∃ i, numC x = some i := by
          rw [← badE_num] at hb1
          cases e : numC x with
          | none => rw [e] at hb1; cases hb1
          | some i => exact ⟨i, rfl⟩
        obtain ⟨j, hj⟩ : ∃ i, numC y = some i := by
          rw [← badE_num] at hb2
          cases e : numC y with
          | none => rw [e] at hb2; cases hb2
          | some i => exact ⟨i, rfl⟩
        have hne : (!(([x, y].filter badE).map fun _ => D.int 1).isEmpty) = false := by
          simp only [List.filter_cons, List.filter_nil, hb1, hb2]; rfl
        rw [hne]
        rw [hi, hj] at h1 h2
        obtain ⟨i1, i2⟩ := numC_some hi
        obtain ⟨j1, j2⟩ := numC_some hj
        walk_at "wgo"
        rw [x_ixF (atI0 _ _)]
        refine x_ints i1 (by omega) ?_
        rw [x_ixF (atI1 _ _ _)]
        refine x_ints j1 (by omega) ?_
        walk_at "wgo"
        cases e1 : decide (i ≤ b) with
        | true =>
          walk_at "wgo"
          exact h1 i j rfl fun h => absurd (of_decide_eq_true e1) (by omega)
        | false =>
          have e1 := of_decide_eq_false e1
          walk_at "wgo"
          cases e2 : decide (i < j) with
          | false =>
            have e2 := of_decide_eq_false e2
            walk_at "wgo"
            exact h1 i j rfl fun h => e2 h.2.1
          | true =>
            have e2 := of_decide_eq_true e2
            walk_at "wgo"
            cases e3 : decide (j ≤ 100) with
            | false =>
              have e3 := of_decide_eq_false e3
              walk_at "wgo"
              exact h1 i j rfl fun h => e3 h.2.2
            | true =>
              have e3 := of_decide_eq_true e3
              walk_at "wgo"
              try refine ⟨DL.size_ok (by rw [List.length_map]; simp only [List.length_cons, List.length_nil]; omega), ?_⟩
              rw [show List.map prD m ++ [D.tup [.int i, .int j]] = prs (m ++ [(i, j)]) by unfold prs; rw [List.map_append]; rfl]
              exact h2 i j _ rfl (by omega) e2 e3
  · rw [stE_no c] at h0
    rw [List.length_map, decide_eq_false (by omega)]
    walk_at "wgo"
    exact h0 rfl
theorem allsO_app {us : List Str} {u : Str} {m : PL} {p : Int × Int} (h : allsO stC us = some m) (h2 : stC u = some p) : allsO stC (us ++ [u]) = some (m ++ [p]) := by
  induction us generalizing m with
  | nil => cases h; show allsO stC [u] = _; unfold allsO; rw [h2]; rfl
  | cons v r ih =>
    rw [List.cons_append]
    unfold allsO at h ⊢
    cases e1 : stC v with
    | none => rw [e1] at h; cases h
    | some q =>
      cases e2 : allsO stC r with
      | none => rw [e1, e2] at h; cases h
      | some k =>
        rw [e1, e2] at h; cases h
        rw [ih e2]; rfl
theorem allsO_get {us : List Str} {m : PL} (h : allsO stC us = some m) : us.length = m.length ∧ ∀ (i : Nat) (u : Str), us[i]? = some u → ∃ p, stC u = some p ∧ m[i]? = some p := by
  induction us generalizing m with
  | nil => cases h; exact ⟨rfl, fun i u h => by simp at h⟩
  | cons v r ih =>
    unfold allsO at h
    cases e1 : stC v with
    | none => rw [e1] at h; cases h
    | some q =>
      cases e2 : allsO stC r with
      | none => rw [e1, e2] at h; cases h
      | some k =>
        rw [e1, e2] at h; cases h
        obtain ⟨g1, g2⟩ := ih e2
        refine ⟨by simp [g1], fun i u hu => ?_⟩
        cases i with
        | zero => simp at hu; subst hu; exact ⟨q, e1, rfl⟩
        | succ i => simp at hu; obtain ⟨p, a1, a2⟩ := g2 i u hu; exact ⟨p, a1, by simpa using a2⟩
theorem okF_pw {lo : Int} : ∀ {l : PL}, okF lo l → l.Pairwise fun p q => p.2 < q.1
  | [], _ => .nil
  | p :: r, ⟨h1, h2, h3, h4⟩ => List.pairwise_cons.mpr ⟨fun q hq => by have := okF_lo h4 q hq; omega, okF_pw h4⟩
where okF_lo {lo : Int} : ∀ {l : PL}, okF lo l → ∀ q ∈ l, lo ≤ q.1
  | p :: r, ⟨h1, h2, h3, h4⟩, q, hq => by
    rcases List.mem_cons.mp hq with rfl | hq
    · exact h1
    · have := okF_lo h4 q hq; omega
def lastE (m : PL) : Int := match m.getLast? with | some p => p.2 | none => -1
theorem lastE_snoc (m : PL) (p : Int × Int) : lastE (m ++ [p]) = p.2 := by unfold lastE; rw [List.getLast?_append]; rfl
theorem lastE_le {m : PL} (h : m.Pairwise fun p q => p.2 < q.1) (hs : ∀ p ∈ m, okSt p) : -1 ≤ lastE m ∧ ∀ q ∈ m, q.2 ≤ lastE m := by
  rcases List.eq_nil_or_concat m with rfl | ⟨r, p, rfl⟩
  · exact ⟨by decide, fun q hq => by cases hq⟩
  · rw [List.concat_eq_append] at h hs ⊢
    rw [lastE_snoc]
    have hp : okSt p := hs p (by simp)
    have p0 : 0 ≤ p.1 := hp.1
    have p1 : p.1 < p.2 := hp.2.1
    refine ⟨by omega, fun q hq => ?_⟩
    rcases List.mem_append.mp hq with hq | hq
    · have := (List.pairwise_append.mp h).2.2 q hq p (by simp)
      omega
    · rw [List.mem_singleton.mp hq]; exact Int.le_refl _
theorem lread_ok (hz : z.length ≤ 10000) (ha : ascT z) (q : Q (match readC z with | some l => spd l | none => .non) A) : callN gm (n + 2) 138 [.str z] A Q E := by
  have hs := asc_ok ha
  refine callN_mk (show gm.fn 138 = some ⟨1, 8, ir_law_read⟩ from rfl) rfl ?_
  -- the loop over the parts
  have key : ∀ (ws : List Str), partsC z = allsO stC ws → (∀ u ∈ ws, u.length ≤ 10000 ∧ ascT u) → ws.length ≤ 20000 →
      dFor (.nm 3) (fun _ => True) (wpSs (callN gm (n + 1)) gm ir_law_read_b1) (ws.map .str) ⟨fun δ' A' => later (callN gm (n + 1)) gm (ir_law_read.drop 3) (endP Q E) δ' A', (endP Q E).rt, (endP Q E).ct, (endP Q E).ex⟩ [some (.str z), some (spd []), some (.int (-1)), none, none, none, none, none] A := by
    intro ws ep hw hwl
    have nope : ∀ (h : readC z = none), (endP Q E).rt .non A := fun h => by
      rw [h] at q
      exact ret_here q
    refine for_inv (fun j δ B => ∃ m d3 d4 d5 d6 d7, δ = [some (.str z), some (spd m), some (.int (lastE m)), d3, d4, d5, d6, d7] ∧ B = A ∧ allsO stC (ws.take j) = some m ∧ (∀ p ∈ m, okSt p) ∧ m.Pairwise fun p q => p.2 < q.1) _ 0 (fun i x δ B M hi hI hM => ?_) ⟨[], none, none, none, none, none, rfl, rfl, rfl, fun p hp => (by cases hp), .nil⟩ ?_
    · obtain ⟨m, d3, d4, d5, d6, d7, rfl, rfl, hm, hst, hpw⟩ := hI
      obtain ⟨u, hu, rfl⟩ := List.getElem?_map ▸ hi |> Option.map_eq_some_iff.mp
      rw [Nat.zero_add] at hm hM
      obtain ⟨u1, u2⟩ := hw u (List.mem_of_getElem? hu)
      have e1 : ws.take (i + 1) = ws.take i ++ [u] := by rw [List.take_add_one, hu]; rfl
      have hml : m.length ≤ 20000 := by have := (allsO_get hm).1; rw [List.length_take] at this; omega
      obtain ⟨l1, l2⟩ := lastE_le hpw hst
      refine ⟨True.intro, ?_⟩
      rw [g_nm]
      walk_at "wpx"
      refine read_b1 (hz := u1) u2 hml (fun h => ?_) (fun i' j h hno => ?_) (fun i' j d4 h g1 g2 g3 => ?_)
      · refine nope ?_
        cases e : readC z with
        | none => rfl
        | some l =>
          obtain ⟨hok, hsay⟩ := readC_some e
          have := partsC_say fun p hp => okF_st hok (Int.le_refl _) p hp
          rw [hsay, ep] at this
          obtain ⟨p, a1, _⟩ := (allsO_get this).2 i u hu
          rw [h] at a1; cases a1
      · refine nope ?_
        cases e : readC z with
        | none => rfl
        | some l =>
          exfalso
          obtain ⟨hok, hsay⟩ := readC_some e
          have := partsC_say fun p hp => okF_st hok (Int.le_refl _) p hp
          rw [hsay, ep] at this
          obtain ⟨g0, g1⟩ := allsO_get this
          obtain ⟨p, a1, a2⟩ := g1 i u hu
          rw [h] at a1; cases a1
          have hpo : okSt (i', j) := okF_st hok (Int.le_refl _) _ (List.mem_of_getElem? a2)
          have p0 : 0 ≤ i' := hpo.1
          refine hno ⟨?_, hpo.2.1, hpo.2.2⟩
          -- what was read so far is the beginning of it
          rcases List.eq_nil_or_concat m with hm0 | ⟨r, p, hm0⟩
          · rw [hm0]; show -1 < i'; omega
          · rw [List.concat_eq_append] at hm0
            subst hm0
            rw [lastE_snoc]
            obtain ⟨k0, k1⟩ := allsO_get hm
            rw [List.length_take, List.length_append, List.length_singleton] at k0
            have hil := (List.getElem?_eq_some_iff.mp hu).1
            have hg : (ws.take i)[r.length]? = ws[r.length]? := by rw [List.getElem?_take]; rw [if_pos (by omega)]
            have hrl : r.length < ws.length := by omega
            obtain ⟨p', b1, b2⟩ := k1 r.length ws[r.length] (by rw [hg]; exact List.getElem?_eq_getElem hrl)
            obtain ⟨p'', c1, c2⟩ := g1 r.length ws[r.length] (List.getElem?_eq_getElem hrl)
            rw [b1] at c1; cases c1
            rw [List.getElem?_append_right (Nat.le_refl _), Nat.sub_self] at b2
            simp at b2; subst b2
            obtain ⟨x1, x2⟩ := List.getElem?_eq_some_iff.mp c2
            obtain ⟨y1, y2⟩ := List.getElem?_eq_some_iff.mp a2
            have := List.pairwise_iff_getElem.mp (okF_pw hok) r.length i x1 y1 (by omega)
            rw [x2, y2] at this
            exact this
      · have hp : okSt (i', j) := ⟨by omega, g2, g3⟩
        refine hM _ _ ⟨m ++ [(i', j)], _, _, _, _, _, by rw [lastE_snoc], rfl, by rw [e1]; exact allsO_app hm h, fun p hq => ?_, ?_⟩
        · rcases List.mem_append.mp hq with hq | hq
          · exact hst p hq
          · rw [List.mem_singleton.mp hq]; exact hp
        · refine List.pairwise_append.mpr ⟨hpw, List.pairwise_singleton _ _, fun a ha b hb => ?_⟩
          rw [List.mem_singleton.mp hb]
          have := l2 a ha
          show a.2 < i'
          omega
    · rintro δ B ⟨m, d3, d4, d5, d6, d7, rfl, rfl, hm, hst, hpw⟩
      rw [Nat.zero_add, List.length_map, List.take_length] at hm
      refine ⟨True.intro, ?_⟩
      have hok : okF 0 m := by
        clear hm
        have : ∀ (l : PL), (∀ p ∈ l, okSt p) → l.Pairwise (fun p q => p.2 < q.1) → ∀ lo, (∀ p ∈ l, lo ≤ p.1) → okF lo l := fun l => by
          induction l with
          | nil => intro _ _ _ _; exact True.intro
          | cons p r ih =>
            intro h1 h2 lo h3
            have hp := h1 p List.mem_cons_self
            obtain ⟨h4, h5⟩ := List.pairwise_cons.mp h2
            exact ⟨h3 p List.mem_cons_self, hp.2.1, hp.2.2, ih (fun q hq => h1 q (List.mem_cons_of_mem _ hq)) h5 _ fun q hq => by have := h4 q hq; omega⟩
        exact this m hst hpw 0 fun p hp => (hst p hp).1
      have hml : m.length ≤ 1000 := by have := okF_len' hok; omega
      refine later_go ?_
      unfold ir_law_read
      simp only [List.drop_succ_cons, List.drop_zero]
      walk_at "wpx"
      refine say_ok (n := n) hst hml ?_
      rw [show dCmp .eq (.str (sayT m)) (.str z) B _ = _ from x_eqSt (sayT_ok hst) hs]
      have er : readC z = if (sayT m == z) = true then some m else none := by
        unfold readC
        rw [ep, hm]
        dsimp only
        have h1 : (m.all stB && adjB m) = true := by
          have := spreadD_ok.mpr hok
          unfold spreadD spd at this
          simp only [alls_prs] at this
          exact this
        rw [h1, Bool.true_and]
      rw [er] at q
      cases e : sayT m == z with
      | true =>
        rw [e] at q
        walk_at "wgo"
        exact ret_here q
      | false =>
        rw [e] at q
        walk_at "wgo"
        exact ret_here q
  generalize hrs : ir_law_read.drop 3 = rs at key
  unfold ir_law_read at hrs ⊢
  simp only [List.drop_succ_cons, List.drop_zero] at hrs
  rw [hrs]
  walk_at "wpx"
  refine later_go ?_
  walk_at "wpx"
  refine later_go ?_
  walk_at "wpx"
  rw [x_neSt hs (by decide +kernel), eqvS]
  cases e : z == "" with
  | true =>
    walk_at "wpx"
    refine newL_fz ?_
    walk_at "wpx"
    exact key [] (by unfold partsC; rw [if_pos e]; rfl) (fun u hu => by cases hu) (by simp)
  | false =>
    walk_at "wgo"
    refine ⟨trivial, ?_⟩
    refine x_splitF (by decide) (Nat.le_trans (show _ ≤ 10002 by omega) (by decide)) ?_
    refine newL_fz ?_
    walk_at "wgo"
    have hlen := split_len (x := z) com_tl com_k
    exact key (Txt.split z ",") (by unfold partsC; rw [e]; rfl) (fun u hu => ⟨Nat.le_trans (split_mem com_tl com_k hu).1 hz, asc_split com_tl com_k ha hu⟩) (by omega)
theorem or_non (q : Q (.str "refused") A) : callN gm (n + 1) 135 [.non] A Q E := by
  refine callN_mk (show gm.fn 135 = some ⟨1, 1, ir_law_or⟩ from rfl) rfl ?_
  unfold ir_law_or
  walk_at "wgo"
  exact ret_here q
theorem or_spd (q : Q (spd l) A) : callN gm (n + 1) 135 [spd l] A Q E := by
  refine callN_mk (show gm.fn 135 = some ⟨1, 1, ir_law_or⟩ from rfl) rfl ?_
  unfold ir_law_or
  walk_at "wgo"
  exact ret_here q
theorem told_ok' (hz : z.length ≤ 10000) (ha : ascT z) (q : Q (match readC z with | some l => spd l | none => .str "refused") A) : callN gm (n + 5) 136 [.str z] A Q E := by
  refine callN_mk (show gm.fn 136 = some ⟨1, 2, ir_law_told⟩ from rfl) rfl ?_
  unfold ir_law_told
  walk_at "wpx"
  refine later_go ?_
  walk_at "wpx"
  refine read_any (n := n) rfl rfl rfl rfl rfl rfl rfl hz (asc_ok ha) ?_
  cases e : readC z with
  | some l =>
    rw [e] at q
    dsimp only
    walk_at "wgo"
    exact ret_here q
  | none =>
    rw [e] at q
    dsimp only
    refine ⟨List.mem_singleton.mpr rfl, ?_⟩
    walk_at "wgo"
    exact ret_here q
def good (z : Str) : Prop := ascT z ∧ z.length ≤ 5000
/-- one text -/
theorem b1_ok (h : good z) {P : Pst} {δ : DSt} (hv : δ[11]? = some (some (.str z))) (c : P.nx δ A) : wpSs (callN gm (n + 6)) gm ir_law_b1 P δ A := by
  have hv' : ∀ {Q : QE} {E : XQ}, wpE (callN gm (n + 6)) gm (.var 11) δ A Q E = Q (.str z) A := fun {Q E} => by
    show (match δ[11]? with | some (some d) => Q d A | _ => False) = _
    rw [hv]
  obtain ⟨ha, hl⟩ := h
  unfold ir_law_b1
  rw [wq_sl, wq_il, wq_not, wq_val, wq_call, wq_cons, wq_call, wq_cons, hv', wq_nil]
  refine told_ok' (n := n + 1) (by omega) ha ?_
  rw [wq_cons, wq_call, wq_cons, wq_call, wq_cons, hv', wq_nil]
  refine lread_ok (n := n + 4) (by omega) ha ?_
  rw [wq_nil]
  cases e : readC z with
  | none =>
    dsimp only
    refine or_non ?_
    rw [wq_nil]
    refine sameS rfl _ _ (show smS (n + 5) (.str "refused") from by cases n <;> exact (by decide +kernel : PyData.strOk "refused" = true)) ?_
    walk_at "wgo"
    exact c
  | some m =>
    have hm := (readC_some e).1
    have := okF_len' hm
    dsimp only
    refine or_spd ?_
    rw [wq_nil]
    refine sameS rfl _ _ (smS_of _ _ (smp_spd (by omega))) ?_
    walk_at "wgo"
    exact c
theorem asc_cut {lo hi : Option Int} (h : ascT z) : ascT (L2.cutS z lo hi) := fun c hc => h c (List.mem_of_mem_drop (List.mem_of_mem_take (by
  have hc : c ∈ (((z.cps.toList.drop (HT.sIx z.length 0 lo)).take (HT.sIx z.length z.length hi - HT.sIx z.length 0 lo)).toArray).toList := hc
  simpa using hc)))
theorem cutL_map {α β : Type} (f : α → β) (xs : List α) (lo hi : Option Int) : cutL (xs.map f) lo hi = (cutL xs lo hi).map f := by
  unfold cutL
  rw [List.length_map, List.map_take, List.map_drop]
theorem cutL_mem {α : Type} {xs : List α} {lo hi : Option Int} {x : α} (h : x ∈ cutL xs lo hi) : x ∈ xs := List.mem_of_mem_drop (List.mem_of_mem_take h)
theorem cutL_len {α : Type} {xs : List α} {lo hi : Option Int} : (cutL xs lo hi).length ≤ xs.length := by
  unfold cutL
  rw [List.length_take, List.length_drop]; omega
theorem good_app {a b : Str} (ha : ascT a) (hb : ascT b) (hl : a.length + b.length ≤ 5000) : good (a ++ b) := ⟨asc_app ha hb, by rw [len_app']; exact hl⟩
theorem asc_com : ascT (",") := by unfold ascT; decide +kernel
/-- the pieces of a said spread -/
def pcs (l : PL) : List Str := if l = [] then [""] else l.map sayP
theorem pcs_split {l : PL} (hl : ∀ p ∈ l, okSt p) : Txt.split (sayT l) "," = pcs l := by
  unfold pcs
  split
  · next h => subst h; decide +kernel
  · next h => exact split_sayT hl h
def small (w : Str) : Prop := ascT w ∧ w.length ≤ 7
theorem pcs_small {l : PL} (hl : ∀ p ∈ l, okSt p) : ∀ w ∈ pcs l, small w := by
  intro w hw
  unfold pcs at hw
  split at hw
  · rw [List.mem_singleton.mp hw]; exact ⟨by unfold ascT; decide +kernel, by decide⟩
  · obtain ⟨p, hp, rfl⟩ := List.mem_map.mp hw
    refine ⟨fun c hc => ?_, sayP_len (hl p hp)⟩
    have h := asc_say (l := [p]) fun q hq => by rw [List.mem_singleton.mp hq]; exact hl p hp
    refine h c ?_
    have e : sayT [p] = sayP p := TL.ext_tl (by
      show TL.tl (Txt.join "," [sayP p]) = _
      rw [TL.join_eq, TL.tl_join]; rfl)
    rw [e]; exact hc
theorem pcs_len {l : PL} : (pcs l).length ≤ l.length + 1 := by
  unfold pcs
  split
  · simp
  · simp
theorem sum_small {ws : List Str} (h : ∀ w ∈ ws, small w) : (ws.map (·.length)).sum ≤ 7 * ws.length := by
  induction ws with
  | nil => simp
  | cons w r ih =>
    have h1 := (h w List.mem_cons_self).2
    have h2 := ih fun u hu => h u (List.mem_cons_of_mem _ hu)
    simp only [List.map_cons, List.sum_cons, List.length_cons]
    omega
theorem join_good {ws : List Str} (h : ∀ w ∈ ws, small w) (hl : ws.length ≤ 200) : good (Txt.join "," ws) := by
  have hs := sum_small h
  refine ⟨fun c hc => ?_, ?_⟩
  · rw [TL.join_eq, TL.tl_join] at hc
    rcases mem_joinL hc with h1 | ⟨p, hp, h1⟩
    · exact asc_com c h1
    · obtain ⟨w, hw, rfl⟩ := List.mem_map.mp hp
      exact (h w hw).1 c h1
  · rw [TL.len_tl, TL.join_eq, TL.tl_join]
    refine Nat.le_trans (joinL_len _) ?_
    rw [List.map_map, List.length_map]
    have h2 : (ws.map (List.length ∘ TL.tl)).sum = (ws.map (·.length)).sum := by congr 1
    rw [h2]
    have : (TL.tl ("," : Str)).length = 1 := by decide
    rw [this]
    omega
theorem x_cutSt {lo hi : Option Int} : dCut (.str z) lo hi A Q = (z.length ≤ sizeLine ∧ Q (.str (L2.cutS z lo hi)) A) := rfl
theorem pick_str (hD : Draws gm) (ns : List Int) {t : Addr} {k : Nat} {s : Str} (ht : A t = some (tw k)) (hk : k < 100000) (h0 : 0 < s.length) (hs : s.length ≤ 1000) (q : ∀ c ∈ TL.tl s, Q (.str ⟨#[c]⟩) (up A t (tw (k + 1)))) : callN gm (n + 2) 103 [.rol (ns.map .int), .ref t, .str s] A Q E := by
  refine callN_mk (show gm.fn 103 = some ⟨3, 3, IR.law_pick⟩ from rfl) rfl ?_
  unfold IR.law_pick
  walk_at "wpx"
  have hl : s.length ≤ sizeLine := len_ok (by omega)
  refine ⟨hl, ?_⟩
  refine hD n ns ht hk (by omega) fun r r0 r1 => ?_
  show s.length ≤ sizeLine ∧ (match L2.atI s.cps.toList r with | some c => _ | none => False)
  refine ⟨hl, ?_⟩
  have e : s.cps.toList.length = s.length := (TL.len_tl s).symm
  obtain ⟨c, hc, e2⟩ := atI_in s.cps.toList r0 (by omega)
  rw [e2]
  exact ret_here (q c hc)
theorem sign_good {c : Nat} (h : c ∈ TL.tl ("0123456789-, +_.aZ~!x" : Str)) : ascT ⟨#[c]⟩ := by
  have : ∀ c ∈ TL.tl ("0123456789-, +_.aZ~!x" : Str), c < 128 := by decide +kernel
  intro d hd
  have : d = c := by simpa [TL.tl] using hd
  subst this
  exact this d h
theorem b2_ok (ns : List Int) {t : Addr} {k : Nat} {P : Pst} (ht : A t = some (tw k)) (hk : k < 70000) {d2 d3 d4 d5 d6 d7 d8 d9 d10 d11 d12 : Option D} (c : ∀ d3 d4 d5 d6 d7 d8 d9 d10 d11 k' B, k' ≤ k + 100 → B t = some (tw k') → P.nx [some (.rol (ns.map .int)), some (.ref t), d2, d3, d4, d5, d6, d7, d8, d9, d10, d11, d12] B) : wpSs (callN gm (n + 8)) gm ir_law_b2 P [some (.rol (ns.map .int)), some (.ref t), d2, d3, d4, d5, d6, d7, d8, d9, d10, d11, d12] A := by
  unfold ir_law_b2
  walk_at "wpx"
  refine law_spread1 (n := n + 4) draws rfl rfl rfl rfl rfl ns ht (by omega) (by decide) (by decide) fun l k1 hl hll hk1 hk2 => ?_
  have ht1 : up A t (tw k1) t = some (tw k1) := up_same
  generalize up A t (tw k1) = A1 at ht1 ⊢
  have hst : ∀ p ∈ l, okSt p := fun p hp => okF_st hl (Int.le_refl _) p hp
  have hlen := sayT_len hst
  have hasc := asc_say hst
  have hok := asc_ok hasc
  refine later_go ?_
  walk_at "wpx"
  refine say_ok (n := n + 7) hst (by omega) ?_
  refine later_go ?_
  walk_at "wpx"
  refine written_ok (n := n + 7) rfl hst (by omega) ?_
  refine sameS rfl (n + 7) _ (show smS (n + 7) (.str (sayT l)) from hok) ?_
  walk_at "wpx"
  refine told_ok' (n := n + 3) (by omega) hasc ?_
  rw [readC_say hl]
  dsimp only
  refine sameS rfl (n + 7) _ (smS_of _ _ (smp_spd (by omega))) ?_
  walk_at "wpx"
  refine later_go ?_
  walk_at "wpx"
  have hls : (sayT l).length ≤ sizeLine := len_ok (by omega)
  refine ⟨hls, ?_⟩
  refine draws (n + 7) ns ht1 (by omega) (by omega) fun at' a0 a1 => ?_
  have ht2 : up A1 t (tw (k1 + 1)) t = some (tw (k1 + 1)) := up_same
  generalize up A1 t (tw (k1 + 1)) = A2 at ht2 ⊢
  refine later_go ?_
  walk_at "wpx"
  refine pick_str (n := n + 6) draws ns ht2 (by omega) (by decide) (by decide) fun ch hch => ?_
  have ht3 : up A2 t (tw (k1 + 1 + 1)) t = some (tw (k1 + 2)) := up_same
  generalize up A2 t (tw (k1 + 1 + 1)) = A3 at ht3 ⊢
  have hsg := sign_good hch
  have hsl : (⟨#[ch]⟩ : Str).length = 1 := rfl
  generalize (⟨#[ch]⟩ : Str) = sg at hsg hsl ⊢
  have hps := pcs_split hst
  have hpsm := pcs_small hst
  have hpl := pcs_len (l := l)
  generalize pcs l = ws at hps hpsm hpl
  generalize sayT l = T at *
  have hcl : ∀ {lo hi : Option Int}, (L2.cutS T lo hi).length ≤ T.length := fun {lo hi} => L2.cutS_length T lo hi
  have hca : ∀ {lo hi : Option Int}, ascT (L2.cutS T lo hi) := fun {lo hi} => asc_cut hasc
  refine later_go ?_
  walk_at "wpx"
  have hc1 : (L2.cutS T none (some at')).length ≤ T.length := hcl
  have hc2 : (L2.cutS T (some at') none).length ≤ T.length := hcl
  have hc3 : (L2.cutS T (some (at' + 1)) none).length ≤ T.length := hcl
  have hc4 : (L2.cutS T none (some 3)).length ≤ 3 := by
    show (((T.cps.toList.drop (HT.sIx T.length 0 none)).take (HT.sIx T.length T.length (some 3) - HT.sIx T.length 0 none)).toArray).size ≤ 3
    rw [List.size_toArray, List.length_take]
    have : HT.sIx T.length 0 none = 0 := rfl
    rw [this]
    have h3 : HT.sIx T.length T.length (some ((3 : Nat) : Int)) = min 3 T.length := by rw [HT.sIx_nat]
    have h3 : HT.sIx T.length T.length (some 3) = min 3 T.length := h3
    rw [h3]; omega
  have ls : ∀ {m : Nat}, m ≤ 100000 → m ≤ sizeLine := fun h => len_ok h
  have lcom : ("," : Str).length = 1 := by decide
  have lsp : (" " : Str).length = 1 := by decide
  have l0 : ("0" : Str).length = 1 := by decide
  have asp : ascT " " := by unfold ascT; decide +kernel
  have az : ascT "0" := by unfold ascT; decide +kernel
  rw [x_cutSt]
  refine ⟨hls, ?_⟩
  rw [x_addS]
  refine ⟨ls (by omega), ?_⟩
  rw [x_cutSt]
  refine ⟨hls, ?_⟩
  rw [x_addS]
  refine ⟨ls (by rw [len_app']; omega), ?_⟩
  rw [x_cutSt]
  refine ⟨hls, ?_⟩
  rw [x_cutSt]
  refine ⟨hls, ?_⟩
  rw [x_addS]
  refine ⟨ls (by omega), ls (by omega), by decide, ?_⟩
  intro p7 n7
  have hB : ∃ L : List Str, up A3 p7 (.lst [.str (L2.cutS T none (some at') ++ sg ++ L2.cutS T (some at') none), .str (L2.cutS T none (some at') ++ L2.cutS T (some (at' + 1)) none), .str (T ++ ",")]) p7 = some (.lst (L.map .str)) ∧ L.length = 3 ∧ ∀ z ∈ L, good z := by
    refine ⟨[_, _, _], up_same, rfl, fun z hz => ?_⟩
    simp only [List.mem_cons, List.not_mem_nil, or_false] at hz
    rcases hz with rfl | rfl | rfl
    · exact good_app (asc_app hca hsg) hca (by rw [len_app']; omega)
    · exact good_app hca hca (by omega)
    · exact good_app hasc asc_com (by omega)
  obtain ⟨L, h7, hL, gL⟩ := hB
  have htB := kp_new (u := .lst [.str (L2.cutS T none (some at') ++ sg ++ L2.cutS T (some at') none), .str (L2.cutS T none (some at') ++ L2.cutS T (some (at' + 1)) none), .str (T ++ ",")]) ht3 n7
  have tp7 : t ≠ p7 := ne_free ht3 n7
  generalize up A3 p7 _ = B at h7 htB ⊢
  refine later_go ?_
  walk_at "wpx"
  rw [x_isL h7]
  refine ⟨trivial, ?_⟩
  rw [x_cutSt]
  refine ⟨hls, ?_⟩
  rw [x_addS]
  refine ⟨ls (by omega), ?_⟩
  rw [x_cutSt]
  refine ⟨hls, ?_⟩
  rw [x_addS]
  refine ⟨ls (by rw [len_app']; omega), ?_⟩
  rw [x_app h7]
  refine ⟨by rw [List.length_map, hL]; decide, ?_⟩
  have h72 : up B p7 (.lst (L.map .str ++ [.str (L2.cutS T none (some at') ++ sg ++ L2.cutS T (some (at' + 1)) none)])) p7 = some (.lst ((L ++ [L2.cutS T none (some at') ++ sg ++ L2.cutS T (some (at' + 1)) none]).map .str)) := by rw [up_same, List.map_append]; rfl
  have gL2 : ∀ z ∈ L ++ [L2.cutS T none (some at') ++ sg ++ L2.cutS T (some (at' + 1)) none], good z := fun z hz => by
    rcases List.mem_append.mp hz with hz | hz
    · exact gL z hz
    · rw [List.mem_singleton.mp hz]; exact good_app (asc_app hca hsg) hca (by rw [len_app']; omega)
  have hL2 : (L ++ [L2.cutS T none (some at') ++ sg ++ L2.cutS T (some (at' + 1)) none]).length = 4 := by rw [List.length_append, hL]; rfl
  have htB2 := kp_up (u := .lst (L.map .str ++ [.str (L2.cutS T none (some at') ++ sg ++ L2.cutS T (some (at' + 1)) none)])) htB tp7
  generalize L ++ [L2.cutS T none (some at') ++ sg ++ L2.cutS T (some (at' + 1)) none] = L4 at h72 gL2 hL2
  generalize up B p7 _ = C at h72 htB2 ⊢
  refine later_go ?_
  walk_at "wpx"
  refine ⟨trivial, ?_⟩
  refine x_splitF (by decide) (Nat.le_trans (show _ ≤ 1002 by omega) (by decide)) ?_
  rw [hps]
  refine newL_fz ?_
  refine later_go ?_
  walk_at "wpx"
  refine draws (n + 7) ns htB2 (by omega) (by omega) fun pl p0 p1 => ?_
  rw [List.length_map] at p1
  have hC2 := kp_up (u := tw (k1 + 2 + 1)) h72 (Ne.symm tp7)
  have htC : up C t (tw (k1 + 2 + 1)) t = some (tw (k1 + 3)) := up_same
  generalize up C t (tw (k1 + 2 + 1)) = D1 at hC2 htC ⊢
  refine later_go ?_
  walk_at "wpx"
  have wst : ∀ {lo hi : Option Int}, cutL (ws.map D.str) lo hi = (cutL ws lo hi).map .str := fun {lo hi} => cutL_map _ _ _ _
  have wsm : ∀ {lo hi : Option Int}, ∀ w ∈ cutL ws lo hi, small w := fun {lo hi} w hw => hpsm w (cutL_mem hw)
  have wsl : ∀ {lo hi : Option Int}, (cutL ws lo hi).length ≤ ws.length := fun {lo hi} => cutL_len
  rw [wst]
  refine newL_fz ?_
  rw [wst]
  refine newL_fz ?_
  rw [x_addF]
  have b1 : (cutL ws none (some pl)).length ≤ ws.length := wsl
  have b2 : (cutL ws (some (pl + 1)) none).length ≤ ws.length := wsl
  have b3 : (cutL ws none (some 1)).length ≤ ws.length := wsl
  refine ⟨ls (by rw [List.length_map, List.length_map]; omega), ?_⟩
  refine newL_fz ?_
  rw [wst]
  refine newL_fz ?_
  rw [x_addF]
  refine ⟨ls (by rw [List.length_map, List.length_map]; omega), ?_⟩
  refine newL_fz ?_
  refine newL_fz ?_
  refine ⟨by decide, ?_⟩
  intro p10 n10
  rw [← List.map_append, ← List.map_append, ← List.map_reverse]
  have h10 : ∃ M : List (List Str), up D1 p10 (.lst [.fl ((cutL ws none (some pl) ++ cutL ws (some (pl + 1)) none).map .str), .fl ((ws ++ cutL ws none (some 1)).map .str), .fl (ws.reverse.map .str)]) p10 = some (.lst (M.map fun us => .fl (us.map .str))) ∧ M.length = 3 ∧ ∀ us ∈ M, us.length ≤ 150 ∧ ∀ w ∈ us, small w := by
    refine ⟨[_, _, _], up_same, rfl, fun us hus => ?_⟩
    simp only [List.mem_cons, List.not_mem_nil, or_false] at hus
    rcases hus with rfl | rfl | rfl
    · refine ⟨by rw [List.length_append]; omega, fun w hw => ?_⟩
      rcases List.mem_append.mp hw with hw | hw
      · exact wsm w hw
      · exact wsm w hw
    · refine ⟨by rw [List.length_append]; omega, fun w hw => ?_⟩
      rcases List.mem_append.mp hw with hw | hw
      · exact hpsm w hw
      · exact wsm w hw
    · exact ⟨by rw [List.length_reverse]; omega, fun w hw => hpsm w (List.mem_reverse.mp hw)⟩
  obtain ⟨M, h10, hM, gM⟩ := h10
  have hC3 := kp_new (u := .lst [.fl ((cutL ws none (some pl) ++ cutL ws (some (pl + 1)) none).map .str), .fl ((ws ++ cutL ws none (some 1)).map .str), .fl (ws.reverse.map .str)]) hC2 n10
  have htD := kp_new (u := .lst [.fl ((cutL ws none (some pl) ++ cutL ws (some (pl + 1)) none).map .str), .fl ((ws ++ cutL ws none (some 1)).map .str), .fl (ws.reverse.map .str)]) htC n10
  have tp10 : t ≠ p10 := ne_free htC n10
  have p710 : p7 ≠ p10 := ne_free hC2 n10
  generalize up D1 p10 _ = E1 at h10 hC3 htD ⊢
  refine later_go ?_
  walk_at "wpx"
  rw [x_isL h10]
  refine ⟨trivial, ?_⟩
  rw [wst]
  refine newL_fz ?_
  rw [x_cutSt]
  refine ⟨hls, ?_⟩
  rw [x_addS]
  refine ⟨ls (by omega), ?_⟩
  refine ⟨by decide, ?_⟩
  refine newL_fz ?_
  rw [x_addF]
  refine ⟨ls (by rw [List.length_map]; simp only [List.length_cons, List.length_nil]; omega), ?_⟩
  refine newL_fz ?_
  rw [x_app h10]
  refine ⟨by rw [List.length_map, hM]; decide, ?_⟩
  have h11 : ∃ M' : List (List Str), up E1 p10 (.lst ((M.map fun us => .fl (us.map .str)) ++ [.fl ((cutL ws none (some pl)).map .str ++ [.str ("0" ++ L2.cutS T none (some 3))])])) p10 = some (.lst (M'.map fun us => .fl (us.map .str))) ∧ M'.length = 4 ∧ ∀ us ∈ M', us.length ≤ 150 ∧ ∀ w ∈ us, small w := by
    refine ⟨M ++ [cutL ws none (some pl) ++ ["0" ++ L2.cutS T none (some 3)]], by rw [up_same]; simp only [List.map_append, List.map_cons, List.map_nil], by rw [List.length_append, hM]; rfl, fun us hus => ?_⟩
    rcases List.mem_append.mp hus with h | h
    · exact gM us h
    · rw [List.mem_singleton.mp h]
      refine ⟨by rw [List.length_append]; simp only [List.length_cons, List.length_nil]; omega, fun w hw => ?_⟩
      rcases List.mem_append.mp hw with hw | hw
      · exact wsm w hw
      · rw [List.mem_singleton.mp hw]
        exact ⟨asc_app az hca, by rw [len_app']; omega⟩
  obtain ⟨M4, h12, hM4, gM4⟩ := h11
  have hC4 := kp_up (u := .lst ((M.map fun us => .fl (us.map .str)) ++ [.fl ((cutL ws none (some pl)).map .str ++ [.str ("0" ++ L2.cutS T none (some 3))])])) hC3 p710
  have htE := kp_up (u := .lst ((M.map fun us => .fl (us.map .str)) ++ [.fl ((cutL ws none (some pl)).map .str ++ [.str ("0" ++ L2.cutS T none (some 3))])])) htD tp10
  generalize up E1 p10 _ = F1 at h12 hC4 htE ⊢
  refine later_go ?_
  walk_at "wpx"
  rw [DL.x_srcL h12]
  refine ⟨ls (by rw [List.length_map, hM4]; decide), ?_⟩
  refine comp_of (fun us : List Str => D.fl (us.map .str)) (fun us => .str (Txt.join "," us)) h12 (fun us hus R hR => ?_) ?_
  · obtain ⟨u1, u2⟩ := gM4 us hus
    have := sum_small u2
    rw [g_nm]
    walk_at "wpx"
    rw [x_joinF]
    exact ⟨trivial, by rw [lcom]; omega, hR⟩
  refine newL_fz ?_
  rw [x_addLF hC4]
  refine ⟨ls (by rw [List.length_map, List.length_map, hL2, hM4]; decide), ?_⟩
  refine newL_fz ?_
  walk_at "wpx"
  refine ⟨ls (by rw [lcom]; omega), ls (by rw [lsp]; omega), ls (by rw [lsp]; omega), by decide, ?_⟩
  refine newL_fz ?_
  rw [x_addF]
  refine ⟨ls (by rw [List.length_append, List.length_map, List.length_map, hL2, hM4]; simp only [List.length_cons, List.length_nil]; omega), ?_⟩
  intro p8 n8
  have h8 : ∃ N : List Str, up F1 p8 (.lst (L4.map .str ++ M4.map (fun us => .str (Txt.join "," us)) ++ [.str ("," ++ T), .str (" " ++ T), .str (T ++ " "), .str "0-100"])) p8 = some (.lst (N.map .str)) ∧ N.length = 12 ∧ ∀ z ∈ N, good z := by
    refine ⟨L4 ++ M4.map (fun us => Txt.join "," us) ++ ["," ++ T, " " ++ T, T ++ " ", "0-100"], by rw [up_same, List.map_append, List.map_append, List.map_map]; rfl, by rw [List.length_append, List.length_append, List.length_map, hL2, hM4]; rfl, fun z hz => ?_⟩
    rcases List.mem_append.mp hz with hz | hz
    · rcases List.mem_append.mp hz with hz | hz
      · exact gL2 z hz
      · obtain ⟨us, hus, rfl⟩ := List.mem_map.mp hz
        exact join_good (gM4 us hus).2 (by have := (gM4 us hus).1; omega)
    · simp only [List.mem_cons, List.not_mem_nil, or_false] at hz
      rcases hz with rfl | rfl | rfl | rfl
      · exact good_app asc_com hasc (by rw [lcom]; omega)
      · exact good_app asp hasc (by rw [lsp]; omega)
      · exact good_app hasc asp (by rw [lsp]; omega)
      · exact ⟨by unfold ascT; decide +kernel, by decide⟩
  obtain ⟨N, h8, hN, gN⟩ := h8
  have htF := kp_new (u := .lst (L4.map .str ++ M4.map (fun us => .str (Txt.join "," us)) ++ [.str ("," ++ T), .str (" " ++ T), .str (T ++ " "), .str "0-100"])) htE n8
  generalize up F1 p8 _ = G1 at h8 htF ⊢
  refine later_go ?_
  walk_at "wpx"
  refine ⟨by decide, ?_⟩
  refine newL_fz ?_
  rw [x_addLF h8]
  refine ⟨ls (by rw [List.length_map, hN]; decide), ?_⟩
  intro p9 n9
  have h9 : ∃ N2 : List Str, up G1 p9 (.lst (N.map .str ++ [.str "0-101", .str "5-5", .str "1-2,2-3", .str "1-2,3-4", .str "00-1", .str "0-01", .str "-", .str "1-", .str "-1", .str "1--2"])) p9 = some (.lst (N2.map .str)) ∧ N2.length = 22 ∧ ∀ z ∈ N2, good z := by
    refine ⟨N ++ (["0-101", "5-5", "1-2,2-3", "1-2,3-4", "00-1", "0-01", "-", "1-", "-1", "1--2"] : List Str), by rw [up_same, List.map_append]; rfl, by rw [List.length_append, hN]; rfl, fun z hz => ?_⟩
    rcases List.mem_append.mp hz with hz | hz
    · exact gN z hz
    · simp only [List.mem_cons, List.not_mem_nil, or_false] at hz
      rcases hz with rfl | rfl | rfl | rfl | rfl | rfl | rfl | rfl | rfl | rfl <;> exact ⟨by unfold ascT; decide +kernel, by decide⟩
  obtain ⟨N2, h9, hN2, gN2⟩ := h9
  have htG := kp_new (u := .lst (N.map .str ++ [.str "0-101", .str "5-5", .str "1-2,2-3", .str "1-2,3-4", .str "00-1", .str "0-01", .str "-", .str "1-", .str "-1", .str "1--2"])) htF n9
  generalize up G1 p9 _ = H1 at h9 htG ⊢
  refine later_go ?_
  walk_at "wpx"
  refine ⟨by decide, ?_⟩
  refine newL_fz ?_
  rw [x_addLF h9]
  refine ⟨ls (by rw [List.length_map, hN2]; decide), ?_⟩
  refine newL_fz ?_
  walk_at "wpx"
  rw [show N2.map D.str ++ [.str "0-1,", .str "99-100", .str "100-101"] = (N2 ++ (["0-1,", "99-100", "100-101"] : List Str)).map .str by rw [List.map_append]; rfl]
  have gN3 : ∀ z ∈ N2 ++ (["0-1,", "99-100", "100-101"] : List Str), good z := fun z hz => by
    rcases List.mem_append.mp hz with hz | hz
    · exact gN2 z hz
    · simp only [List.mem_cons, List.not_mem_nil, or_false] at hz
      rcases hz with rfl | rfl | rfl <;> exact ⟨by unfold ascT; decide +kernel, by decide⟩
  generalize N2 ++ (["0-1,", "99-100", "100-101"] : List Str) = N3 at gN3
  refine for_inv (fun j δ B => ∃ d10 d11, δ = [some (.rol (ns.map .int)), some (.ref t), d2, some (spd l), some (.str T), some (.int at'), some (.str sg), some (.ref p9), some (.fl (ws.map .str)), some (.int pl), d10, d11, d12] ∧ B = H1) _ 0 (fun i x δ B M hi hI hM => ?_) ⟨_, _, rfl, rfl⟩ ?_
  · obtain ⟨d10, d11, rfl, rfl⟩ := hI
    obtain ⟨z, hz, rfl⟩ := List.getElem?_map ▸ hi |> Option.map_eq_some_iff.mp
    refine ⟨True.intro, ?_⟩
    rw [g_nm]
    exact b1_ok (n := n + 2) (gN3 z (List.mem_of_getElem? hz)) rfl (hM _ _ ⟨_, _, rfl, rfl⟩)
  · rintro δ B ⟨d10, d11, rfl, rfl⟩
    refine ⟨True.intro, ?_⟩
    walk_at "wpx"
    exact c _ _ _ _ _ _ _ _ _ (k1 + 3) B (by omega) htG
theorem law_true : ∀ ns : List Int, ns.length ≤ 63 → callN gm 40 112 [.rol (ns.map .int)] (fun _ => none) (fun d _ => d = .bl true) (fun _ _ => False) := by
  intro ns _
  refine callN_mk (show gm.fn 112 = some ⟨1, 13, ir_law⟩ from rfl) rfl ?_
  unfold ir_law
  walk_at "wpx"
  intro t nt
  refine later_go ?_
  walk_at "wpx"
  refine ⟨by decide, ?_⟩
  refine for_inv (fun j δ B => ∃ d2 d3 d4 d5 d6 d7 d8 d9 d10 d11 d12, δ = [some (.rol (ns.map .int)), some (.ref t), d2, d3, d4, d5, d6, d7, d8, d9, d10, d11, d12] ∧ ∃ k, k ≤ 100 * j ∧ B t = some (tw k)) (rgD 0 8) 0 (fun i x δ B N hi hI hN => ?_) ⟨none, none, none, none, none, none, none, none, none, none, none, rfl, 0, by omega, up_same⟩ ?_
  · obtain ⟨d2, d3, d4, d5, d6, d7, d8, d9, d10, d11, d12, rfl, k, hk, hb⟩ := hI
    have hi8 := (rgD_get hi).2
    refine ⟨True.intro, ?_⟩
    rw [g_nm]
    exact b2_ok (n := 31) ns hb (by omega) fun e3 e4 e5 e6 e7 e8 e9 e10 e11 k' A' hk' ht' => hN _ _ ⟨_, e3, e4, e5, e6, e7, e8, e9, e10, e11, _, rfl, k', by omega, ht'⟩
  · rintro δ B ⟨d2, d3, d4, d5, d6, d7, d8, d9, d10, d11, d12, rfl, k, hk, hb⟩
    refine ⟨True.intro, ?_⟩
    walk_at "wpx"
    refine later_go ?_
    walk_at "wpx"
    exact ⟨_, DL.Sub.refl _, by trivial⟩
end
end Lk13

open PySem PySem.W PyProof.Rows
set_option maxRecDepth 100000 in
set_option maxHeartbeats 0 in
theorem PySem.Challenge.cw_keptranges_k13_whole_spreads_as_texts_holds : PySem.Challenge.rw_keptranges_k13_whole_spreads_as_texts.Holds := by
  w_on; o_law; k_head; (case hw => w_witness2)
  k_fill
  refine L2.walk_of (l := PySem.Challenge.rw_keptranges_k13_whole_spreads_as_texts) (n := 63) (k := 80) (x := "_law_script") (CX := fun w => L2.CX PySem.Challenge.rw_keptranges_k13_whole_spreads_as_texts.prog w) (sp := fun w => DL.spLaw _) rfl (by decide) rfl ⟨rfl, by decide, by decide⟩ (fun w h Y => PySem.W.kIn_of Y) ?F (fun _ _ a ns hl hO hS => ⟨a, ns, rfl, DL.sqR_of hO hS, hl, fun _ => rfl⟩) (fun _ _ _ _ _ h => DL.no_cx h)
  case F =>
    intro w mg fa h KX G hmg
    refine' Lk13.all_mk KX G hmg ?a0 ?l0 ?c0 ?k0 ?a1 ?l1 ?c1 ?k1 ?a2 ?l2 ?c2 ?k2 ?a3 ?l3 ?c3 ?k3 ?a4 ?l4 ?c4 ?k4 ?a5 ?l5 ?c5 ?k5 ?a6 ?l6 ?c6 ?k6 ?a7 ?l7 ?c7 ?k7 ?a8 ?l8 ?c8 ?k8 ?a9 ?l9 ?c9 ?k9 ?a10 ?l10 ?c10 ?k10 ?a11 ?l11 ?c11 ?k11 ?a12 ?l12 ?c12 ?k12 ?a13 ?l13 ?c13 ?k13 ?a14 ?l14 ?c14 ?k14 ?a15 ?l15 ?c15 ?k15 ?a16 ?l16 ?c16 ?k16 ?a17 ?l17 ?c17 ?k17 ?a18 ?l18 ?c18 ?k18 ?aX_NoText ?xP_NoText ?kP_NoText ?bP_NoText ?tP_NoText ?iP_NoText ?sP_NoText ?z_all ?z_bool ?z_int ?z_isinstance ?z_len ?z_min ?z_range ?z_str ?z_tuple ?z_zip ?q_FIGURES ?q_KEYS Lk13.law_true
    (case a0 => k_is)
    (case l0 => k_is)
    (case c0 => k_is)
    (case k0 => k_is)
    (case a1 => k_is)
    (case l1 => k_is)
    (case c1 => k_is)
    (case k1 => k_is)
    (case a2 => k_is)
    (case l2 => k_is)
    (case c2 => k_is)
    (case k2 => k_is)
    (case a3 => k_is)
    (case l3 => k_is)
    (case c3 => k_is)
    (case k3 => k_is)
    (case a4 => k_is)
    (case l4 => k_is)
    (case c4 => k_is)
    (case k4 => k_is)
    (case a5 => k_is)
    (case l5 => k_is)
    (case c5 => k_is)
    (case k5 => k_is)
    (case a6 => k_is)
    (case l6 => k_is)
    (case c6 => k_is)
    (case k6 => k_is)
    (case a7 => k_is)
    (case l7 => k_is)
    (case c7 => k_is)
    (case k7 => k_is)
    (case a8 => k_is)
    (case l8 => k_is)
    (case c8 => k_is)
    (case k8 => k_is)
    (case a9 => k_is)
    (case l9 => k_is)
    (case c9 => k_is)
    (case k9 => k_is)
    (case a10 => k_is)
    (case l10 => k_is)
    (case c10 => k_is)
    (case k10 => k_is)
    (case a11 => k_is)
    (case l11 => k_is)
    (case c11 => k_is)
    (case k11 => k_is)
    (case a12 => k_is)
    (case l12 => k_is)
    (case c12 => k_is)
    (case k12 => k_is)
    (case a13 => k_is)
    (case l13 => k_is)
    (case c13 => k_is)
    (case k13 => k_is)
    (case a14 => k_is)
    (case l14 => k_is)
    (case c14 => k_is)
    (case k14 => k_is)
    (case a15 => k_is)
    (case l15 => k_is)
    (case c15 => k_is)
    (case k15 => k_is)
    (case a16 => k_is)
    (case l16 => k_is)
    (case c16 => k_is)
    (case k16 => k_is)
    (case a17 => k_is)
    (case l17 => k_is)
    (case c17 => k_is)
    (case k17 => k_is)
    (case a18 => k_is)
    (case l18 => k_is)
    (case c18 => k_is)
    (case k18 => k_is)
    (case aX_NoText => k_is)
    (case xP_NoText => k_exc)
    (case kP_NoText => k_is)
    (case bP_NoText => k_is)
    (case tP_NoText => k_is)
    (case iP_NoText => k_is)
    (case sP_NoText => k_is)
    (case z_all => k_is)
    (case z_bool => k_is)
    (case z_int => k_is)
    (case z_isinstance => k_is)
    (case z_len => k_is)
    (case z_min => k_is)
    (case z_range => k_is)
    (case z_str => k_is)
    (case z_tuple => k_is)
    (case z_zip => k_is)
    (case q_FIGURES => k_is)
    (case q_KEYS => k_is)
